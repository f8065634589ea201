import PyProof.Rows.All
import Wide.All
import OpenK.AllK
import Wide.FinOn
import PyProof.Rows.StrIntSpec
import KE.BitLaws
import PySem.Challenge.RW_nu0098_01
set_option backward.match.sparseCases false
set_option bootstrap.genMatcherCode false
set_option genInjectivity false
set_option genSizeOf false
set_option linter.unusedSimpArgs false
set_option linter.unusedVariables false
set_option maxRecDepth 100000
set_option tactic.hygienic false
open Option renaming some->Z,none->D,casesOn->c0,isNone_iff_eq_none->dy,any_eq_true->eV,map_some->gc,map->ii,isSome_map->ip,isSome_eq_false_iff->i_,map_eq_some_iff->jF,noConfusion->kq
open Bool renaming true->I,false->ak,and_eq_true->aJ,casesOn->bf,noConfusion->bw,not->dF,false_ne_true->dQ,rec->dX,not_eq_true'->dZ,false_eq_true->fj,or_eq_false_iff->gP,eq_iff_iff->i9,false_or->jG,true_and->jI,and_true->jJ,not_eq_false'->kV
open Option.some renaming inj->aa
open PySem.Builtin renaming bitAnd->ae,bitOr->ai,bitNot->br
open PySem renaming wpAny_bind->af,Expr->aj,Shared->am,Value->ap,wpAny_pure->au,wpAny->az,model->aC,wpAny_mono->aK,Around->aN,Addr->aS,wpAny_holding->aT,Str->aX,starEach->bh,callEnvC->bn,eval->bu,wpAny_standAt->bC,holding->bF,call->bI,Env->bL,backTo->bS,wpAny_loadPart_at->bU,mainGlobals->b7,NameKind->b8,pushCells->cj,sizeLine->cB,compareOp->cD,wpAny_execs_cons->cE,getMethod_builtin->cH,cellsFrom->cT,DictEntry->c7,spliced->di,wpAny_isSubtype_exc->dj,Heap->dk,wpAny_execs_nil->dw,excClassObj->dI,wpAny_field->dK,FuncData->dW,codeAny->dY,getItem->d_,Result->ek,wpAny_call->en,wpAny_list_append_plain->er,wpAny_of_eq->et,interactive->eu,standAt->eE,builtinsNs->eM,exec->eO,Program->eT,intKind->eU,wpAny_newList->eW,wpAny_release->eX,swappedStores->eZ,evalEach->fg,valueOrNone->fh,codeAny_call_builtin->fi,Stmt->fq,clipAt->fy,wpAny_ite_false->fD,bootBuiltins->fK,ExcBaseFacts->fO,swapsWith->fT,setFlight->fU,rawInt->fX,wpAny_Expr_any->fY,wpAny_setField->fZ,valueAt->gf,wpAny_truthy_bool->gh,wpAny_newObj_type->gj,ExceptHandler->gq,Sem->gF,Operator->gI,truthy->gW,compareChain->g9,pyIter->hH,cLine->hW,letOwnedTupleGo->h_,execs->ig,Pos->im,wpAny_letTemporaryGo->iu,assign->iw,ClassData->iA,World->iF,call_meets->iN,wpAny_Name->iP,assignEach->iR,Obj->jb,call_meetsIn->je,callWith->jg,evalOpt->ji,wpAny_Return_some->jk,getMethod->ju,IsPart->jv,lastMarks->jw,testChain->jx,noteFrame->jy,checkBuiltinCall->jA,pushCells_keeps->jL,CmpOp->jW,typeIs_int->jX,wpAny_loadPart->jY,constantsAlone->jZ,wpAny_newTuple->j0,typeIs_str->j4,wpAny_FormattedValue_plain->j8,wpAny_bindName->j9,cameBackBy->ka,bindName->kb,mem_of_lookup->kx,wpAt_of_wpAny->kz,wpAny_assignInOrder_none->kH,wpAny_assignInOrder_more->kI,Scope->kR
open Eq renaming trans->ah
open Nat renaming le_refl->al,le_trans->ao,lt_of_lt_of_le->aF,le_succ->aL,lt_irrefl->aZ,le_succ_of_le->bo,zero_le->bv,le_of_lt->bB,le_of_eq->bV,eq_of_beq_eq_true->cm,succ_le_succ->cM,ne_of_lt->cY,ne_of_gt->dD,lt_of_succ_lt_succ->ej,and_two_pow_sub_one_eq_mod->eH,add_le_add_left->eY,add_le_add->fw,lt_succ_self->gd,lt_trans->gk,sub_self->gn,not_lt_zero->gA,le_antisymm->gG,blt->hU,lt_of_le_of_lt->iq,le_of_succ_le->iC,zero_lt_succ->iJ,succ_ne_self->iL,le_add_right->iS,min_le_left->jl,le_of_succ_le_succ->jU,lt_or_ge->jV,beq->ki,sub_eq_zero_of_le->kl,le_of_ble_eq_true->km,casesOn->kC,sub_succ_lt_self->kJ,pow_le_pow_right->kM
open List renaming mem_cons_of_mem->aq,mem_cons_self->aw,length_map->ay,mem_of_getElem?->aH,getElem?_eq_getElem->aI,replicate->aO,size_toArray->aR,length_append->aW,getD_eq_getElem?_getD->a_,mem_singleton->bc,lookup_cons->be,length_filter_le->bp,prefix_refl->bD,length_cons->bE,append_assoc->bP,rec->bR,not_mem_nil->bY,map->b9,map_map->b_,filter_cons->cq,zip_cons_cons->cv,mem_cons->cy,getElem?_append_right->cO,append_nil->cU,forall_mem_nil->c9,filter_sublist->de,map_cons->dr,getElem?_map->dt,flatMap_cons->dv,casesOn->dz,all_eq_true->dB,map_append->dO,range->dP,pairwise_singleton->dS,filter_eq_nil_iff->ee,mem_of_mem_erase->ez,map_flatMap->eD,mem_append_left->eI,foldl_cons->eJ,perm_ext_iff_of_nodup->fm,getElem?_append_left->fF,mem_of_find?_eq_some->fG,getLast?_eq_getElem?->fH,drop_eq_getElem_cons->fJ,filter->fP,filter_congr->fQ,drop_length->f8,length_take->f_,forIn_cons->gu,length_singleton->gH,forIn_nil->gQ,map_congr_left->hY,filterMap_cons->ie,any_cons->ik,reverse_cons->iz,eraseIdxIfInBounds_toArray->iB,cons->iE,cons_append->iG,cons_ne_nil->iH,getElem_map->iI,eq_nil_of_length_eq_zero->iQ,find?_some->i5,length_nil->i7,of_mem_zip->i8,mem_filter->ja,all_cons->jE,find?_cons_of_pos->jN,find?_cons_of_neg->jO,toArray->jP,filterMap_reverse->jQ,dropLast_eq_take->j5,take_eq_take_min->j7,getElem_of_mem->kD,eraseDups_cons->kK,prefix_append->kP,findIdx?_cons->kS,lookup_append->kT,contains_cons->kW
open PySem.Heap renaming get?_push_of_some->av,get?_push_size->aU,size_push->aV,SameBut->bA,get?_update_other->bG,lt_size->bK,get?_update_self->bQ,size_update->cL,get?_none_of_le->ky,get?_update_ne->kL
open Or renaming elim->aB
open Decidable renaming decide->aE,byContradiction->eP
open LawfulBEq renaming eq_of_beq->aG
open PySem.Value renaming ref->aQ,none->bW,builtin->jB,bool->kE
open PySem.Builtin.Range renaming rangeSize->aY,small->cR
open Pure renaming pure->ba
open Int renaming le_of_lt->bj,emod_lt_of_pos->bq,lt_of_le_of_lt->bt,le_trans->bx,emod_nonneg->bz,lt_trans->bH,ofNat->bJ,lt_of_lt_of_le->bX,le_sub_one_of_lt->bZ,add_zero->cz,ne_of_gt->cA,mul_nonneg->cC,mul_zero->cK,ediv_nonneg->cV,one_mul->cW,natAbs_of_nonneg->cX,add_assoc->cZ,natCast_nonneg->dR,eq_ofNat_of_zero_le->dV,zero_add->ef,add_comm->eh,add_nonneg->ei,add_mul_ediv_right->eo,mul_ediv_add_emod->eA,add_le_add_left->eQ,toNat_of_nonneg->eR,mul_comm->e_,fdiv_eq_ediv_of_nonneg->fo,mul_add_emod_self_left->fE,mul_assoc->fV,lt_add_of_pos_right->ge,le_of_eq->gm,ediv_eq_zero_of_lt->gw,le_antisymm->gy,add_mul->gR,emod_eq_of_lt->iD,toNat->iK,ediv_le_self->iW,mul_le_mul_of_nonneg_right->iX,mul_add->iY,casesOn->iZ,mul_one->i3,add_mul_emod_self_right->jr,fmod_eq_emod_of_nonneg->jt,add_ediv_of_dvd_right->jH,eq_of_mul_eq_mul_left->jK,zero_mul->jT,ediv_lt_of_lt_mul->kA,negSucc_lt_zero->kN,toNat_of_nonpos->kO
open ForInStep renaming yield->bM
open PySem.Str renaming ofString->bN,length_append->fR,empty->jR
open PySem.NameKind renaming free->bO,cell->ck
open PySem.Obj renaming mapFields->bT,mapSeq->cP,data_mapFields->cQ,isFreed_of_fields->eB
open PySem.W renaming kas_place->ce,emptyDict->c8,instObj->dA,dictOf->dG,findIn->dH,callWith_of->dL,kas_asc->d9,Frag->ew,keepIn->eF,kas_sort->eL,hasDictIn->eN,kas_desc->fa,kas_rev->fN,getL->gJ,looks_findIn->g_,KasT->ij,typeIs_bytes->jd,takerIn->jM,findCls->jS,Looks->j3,clsIn->kh,putL->kF,plainOver->kQ
open PySem.PyData renaming keyHash->cw
open Array renaming length_toList->cF,getD->il,mk->jm
open UInt8 renaming toNat->cG
open Inhabited renaming default->cJ
open PySem.Heap.SameBut renaming update->cS
open PySem.Calls renaming Name_function_global->c_,Constant_str->dh,evalArgs_plain->dm,loadGlobal_global->gi
open PySem.Data renaming noConfusion->dg
open Sum renaming inl->dp,elim->fp,inr->jp
open LawfulMonad renaming bind_assoc->du
open List.Nodup renaming sublist->dC
open PySem.F renaming plainAttrs_list->dE,slot_dict_pop->gM,slot_list_append->gY,type_list_append->gZ,excBase_ValueError->iT,entry_dict_pop->jf,slot_list_extend->j_
open PyProof.Rows renaming seqObj->dJ,joinParts_cons->eG,bitAnd_m1->gK,bitAnd_not->iU,neg_int->i4,lt_int->jc,bitOr_and->jC,bitAnd_m4->jD,envOf->kj
open Ne renaming symm->dT
open PySem.Builtin.Bytes renaming sliced->dU
open Prod.mk renaming inj->ey
open PySem.Value.ref renaming inj->fe
open PyProof renaming noPylong_small->fW
open HAdd renaming hAdd->f0
open Prod renaming fst->f7
open PySem.W.Fast renaming sEq->gL
open Nat.succ renaming inj->hZ
open PySem.Builtin.List renaming listTooLong->iy
open PySem.Keeper renaming machine->i6
open ToString renaming toString->jj
open PySem.Expr renaming Attribute->jo
open List.Pairwise renaming nil->jq
open PySem.EntryCells renaming newEntry->jz
open PySem.W.FB renaming args_bytes_getitem_2->j6,entry_bytes_getitem->ku,slot_bytes_getitem->kG
open PySem.Code renaming quiet_builtin->kU
open PySem PySem.W PyProof.Rows PySem.SeqAt PySem.Calls
namespace Mine.Internal
local macro_rules (kind:=Lean.Parser.Command.declaration)|s=>if s.getPos?.isNone then Lean.Macro.throwUnsupported else ba (s.rewriteBottomUp (·.setInfo .none))
theorem lA{a b:Prop}{c:Prop}(d:a/\b)(e:a->b->c):c:=by obtain⟨f,g⟩:=d;exact e f g
theorem mj{a b c:Prop}{d:Prop}(e:a/\b/\c)(f:a->b->c->d):d:=by obtain⟨g,h,i⟩:=e;exact f g h i
theorem nk{a b c d:Prop}{e:Prop}(f:a/\b/\c/\d)(g:a->b->c->d->e):e:=by obtain⟨h,i,j,k⟩:=f;exact g h i j k
theorem nc{a b c d e:Prop}{f:Prop}(g:a/\b/\c/\d/\e)(h:a->b->c->d->e->f):f:=by obtain⟨i,j,k,l,m⟩:=g;exact h i j k l m
theorem sX{a b c d e f:Prop}{g:Prop}(h:a/\b/\c/\d/\e/\f)(i:a->b->c->d->e->f->g):g:=by obtain⟨j,k,l,m,n,o⟩:=h;exact i j k l m n o
theorem oW{a b c d e f g h i:Prop}{j:Prop}(k:a/\b/\c/\d/\e/\f/\g/\h/\i)(l:a->b->c->d->e->f->g->h->i->j):j:=by obtain⟨m,n,o,p,q,r,s,t,u⟩:=k;exact l m n o p q r s t u
theorem lp{a:Type}{b:a->Prop}{c:Prop}(d:∃e,b e)(f:∀e,b e->c):c:=by obtain⟨e,g⟩:=d;exact f e g
theorem ll{a:Type}{b c:a->Prop}{d:Prop}(e:∃f,b f/\c f)(g:∀f,b f->c f->d):d:=by obtain⟨f,h,i⟩:=e;exact g f h i
theorem mQ{a:Type}{b c d:a->Prop}{e:Prop}(f:∃g,b g/\c g/\d g)(h:∀g,b g->c g->d g->e):e:=by obtain⟨g,i,j,k⟩:=f;exact h g i j k
theorem r9{a:Type}{b c d e:a->Prop}{f:Prop}(g:∃h,b h/\c h/\d h/\e h)(i:∀h,b h->c h->d h->e h->f):f:=by obtain⟨h,j,k,l,m⟩:=g;exact i h j k l m
theorem H1{a:Type}{b c d e f g:a->Prop}{h:Prop}(i:∃j,b j/\c j/\d j/\e j/\f j/\g j)(k:∀j,b j->c j->d j->e j->f j->g j->h):h:=by obtain⟨j,l,m,n,o,p,q⟩:=i;exact k j l m n o p q
theorem mY{a b:Type}{c:a->b->Prop}{d:Prop}(e:∃f g,c f g)(h:∀f g,c f g->d):d:=by obtain⟨f,g,i⟩:=e;exact h f g i
theorem mB{a b:Type}{c d:a->b->Prop}{e:Prop}(f:∃g h,c g h/\d g h)(i:∀g h,c g h->d g h->e):e:=by obtain⟨g,h,j,k⟩:=f;exact i g h j k
theorem lP{a b:Type}{c d e:a->b->Prop}{f:Prop}(g:∃h i,c h i/\d h i/\e h i)(j:∀h i,c h i->d h i->e h i->f):f:=by obtain⟨h,i,k,l,m⟩:=g;exact j h i k l m
theorem sY{a b:Type}{c d e f:a->b->Prop}{g:Prop}(h:∃i j,c i j/\d i j/\e i j/\f i j)(k:∀i j,c i j->d i j->e i j->f i j->g):g:=by obtain⟨i,j,l,m,n,o⟩:=h;exact k i j l m n o
theorem wz{a b:Type}{c d e f g:a->b->Prop}{h:Prop}(i:∃j k,c j k/\d j k/\e j k/\f j k/\g j k)(l:∀j k,c j k->d j k->e j k->f j k->g j k->h):h:=by obtain⟨j,k,m,n,o,p,q⟩:=i;exact l j k m n o p q
theorem yQ{a b c:Type}{d:a->b->c->Prop}{e:Prop}(f:∃g h i,d g h i)(j:∀g h i,d g h i->e):e:=by obtain⟨g,h,i,k⟩:=f;exact j g h i k
theorem sZ{a b c:Type}{d e:a->b->c->Prop}{f:Prop}(g:∃h i j,d h i j/\e h i j)(k:∀h i j,d h i j->e h i j->f):f:=by obtain⟨h,i,j,l,m⟩:=g;exact k h i j l m
theorem nZ{a b c:Type}{d e f:a->b->c->Prop}{g:Prop}(h:∃i j k,d i j k/\e i j k/\f i j k)(l:∀i j k,d i j k->e i j k->f i j k->g):g:=by obtain⟨i,j,k,m,n,o⟩:=h;exact l i j k m n o
theorem tX{a b c:Type}{d e f g:a->b->c->Prop}{h:Prop}(i:∃j k l,d j k l/\e j k l/\f j k l/\g j k l)(m:∀j k l,d j k l->e j k l->f j k l->g j k l->h):h:=by obtain⟨j,k,l,n,o,p,q⟩:=i;exact m j k l n o p q
theorem BU{a b c:Type}{d e f g h:a->b->c->Prop}{i:Prop}(j:∃k l m,d k l m/\e k l m/\f k l m/\g k l m/\h k l m)(n:∀k l m,d k l m->e k l m->f k l m->g k l m->h k l m->i):i:=by obtain⟨k,l,m,o,p,q,r,s⟩:=j;exact n k l m o p q r s
theorem H4{a b c d:Type}{e f:a->b->c->d->Prop}{g:Prop}(h:∃i j k l,e i j k l/\f i j k l)(m:∀i j k l,e i j k l->f i j k l->g):g:=by obtain⟨i,j,k,l,n,o⟩:=h;exact m i j k l n o
theorem yR{a b c d:Type}{e f g:a->b->c->d->Prop}{h:Prop}(i:∃j k l m,e j k l m/\f j k l m/\g j k l m)(n:∀j k l m,e j k l m->f j k l m->g j k l m->h):h:=by obtain⟨j,k,l,m,o,p,q⟩:=i;exact n j k l m o p q
theorem H5{a b c d:Type}{e f g h:a->b->c->d->Prop}{i:Prop}(j:∃k l m n,e k l m n/\f k l m n/\g k l m n/\h k l m n)(o:∀k l m n,e k l m n->f k l m n->g k l m n->h k l m n->i):i:=by obtain⟨k,l,m,n,p,q,r,s⟩:=j;exact o k l m n p q r s
theorem BV{a b c d:Type}{e f g h i:a->b->c->d->Prop}{j:Prop}(k:∃l m n o,e l m n o/\f l m n o/\g l m n o/\h l m n o/\i l m n o)(p:∀l m n o,e l m n o->f l m n o->g l m n o->h l m n o->i l m n o->j):j:=by obtain⟨l,m,n,o,q,r,s,t,u⟩:=k;exact p l m n o q r s t u
theorem H7{a b c d e:Type}{f g h:a->b->c->d->e->Prop}{i:Prop}(j:∃k l m n o,f k l m n o/\g k l m n o/\h k l m n o)(p:∀k l m n o,f k l m n o->g k l m n o->h k l m n o->i):i:=by obtain⟨k,l,m,n,o,q,r,s⟩:=j;exact p k l m n o q r s
theorem H8{a b c d e:Type}{f g h i j k l m:a->b->c->d->e->Prop}{n:Prop}(o:∃p q r s t,f p q r s t/\g p q r s t/\h p q r s t/\i p q r s t/\j p q r s t/\k p q r s t/\l p q r s t/\m p q r s t)(u:∀p q r s t,f p q r s t->g p q r s t->h p q r s t->i p q r s t->j p q r s t->k p q r s t->l p q r s t->m p q r s t->n):n:=by obtain⟨p,q,r,s,t,v,w,x,y,z,A,B,C⟩:=o;exact u p q r s t v w x y z A B C
theorem H9{a b c d e:Type}{f g h i j k l m n:a->b->c->d->e->Prop}{o:Prop}(p:∃q r s t u,f q r s t u/\g q r s t u/\h q r s t u/\i q r s t u/\j q r s t u/\k q r s t u/\l q r s t u/\m q r s t u/\n q r s t u)(v:∀q r s t u,f q r s t u->g q r s t u->h q r s t u->i q r s t u->j q r s t u->k q r s t u->l q r s t u->m q r s t u->n q r s t u->o):o:=by obtain⟨q,r,s,t,u,w,x,y,z,A,B,C,E,F⟩:=p;exact v q r s t u w x y z A B C E F
theorem n0{a b:Prop}(c:a)(d:b):a/\b:=⟨c,d⟩
theorem oz{a b c:Prop}(d:a)(e:b)(f:c):a/\b/\c:=⟨d,e,f⟩
theorem oK{a b c d:Prop}(e:a)(f:b)(g:c)(h:d):a/\b/\c/\d:=⟨e,f,g,h⟩
theorem qp{a b c d e:Prop}(f:a)(g:b)(h:c)(i:d)(j:e):a/\b/\c/\d/\e:=⟨f,g,h,i,j⟩
theorem yS{a b c d e f:Prop}(g:a)(h:b)(i:c)(j:d)(k:e)(l:f):a/\b/\c/\d/\e/\f:=⟨g,h,i,j,k,l⟩
theorem H_{a b c d e f g h i:Prop}(j:a)(k:b)(l:c)(m:d)(n:e)(o:f)(p:g)(q:h)(r:i):a/\b/\c/\d/\e/\f/\g/\h/\i:=⟨j,k,l,m,n,o,p,q,r⟩
theorem mf{a:Type}{b:a->Prop}(c:a)(d:b c):∃c,b c:=⟨c,d⟩
theorem lQ{a:Type}{b c:a->Prop}(d:a)(e:b d)(f:c d):∃d,b d/\c d:=⟨d,e,f⟩
theorem pQ{a:Type}{b c d:a->Prop}(e:a)(f:b e)(g:c e)(h:d e):∃e,b e/\c e/\d e:=⟨e,f,g,h⟩
theorem tY{a:Type}{b c d e:a->Prop}(f:a)(g:b f)(h:c f)(i:d f)(j:e f):∃f,b f/\c f/\d f/\e f:=⟨f,g,h,i,j⟩
theorem BW{a:Type}{b c d e f:a->Prop}(g:a)(h:b g)(i:c g)(j:d g)(k:e g)(l:f g):∃g,b g/\c g/\d g/\e g/\f g:=⟨g,h,i,j,k,l⟩
theorem Ia{a:Type}{b c d e f g:a->Prop}(h:a)(i:b h)(j:c h)(k:d h)(l:e h)(m:f h)(n:g h):∃h,b h/\c h/\d h/\e h/\f h/\g h:=⟨h,i,j,k,l,m,n⟩
theorem tZ{a b:Type}{c:a->b->Prop}(d:a)(e:b)(f:c d e):∃d e,c d e:=⟨d,e,f⟩
theorem r_{a b:Type}{c d:a->b->Prop}(e:a)(f:b)(g:c e f)(h:d e f):∃e f,c e f/\d e f:=⟨e,f,g,h⟩
theorem mh{a b:Type}{c d e:a->b->Prop}(f:a)(g:b)(h:c f g)(i:d f g)(j:e f g):∃f g,c f g/\d f g/\e f g:=⟨f,g,h,i,j⟩
theorem t0{a b:Type}{c d e f:a->b->Prop}(g:a)(h:b)(i:c g h)(j:d g h)(k:e g h)(l:f g h):∃g h,c g h/\d g h/\e g h/\f g h:=⟨g,h,i,j,k,l⟩
theorem BX{a b:Type}{c d e f g:a->b->Prop}(h:a)(i:b)(j:c h i)(k:d h i)(l:e h i)(m:f h i)(n:g h i):∃h i,c h i/\d h i/\e h i/\f h i/\g h i:=⟨h,i,j,k,l,m,n⟩
theorem BY{a b c:Type}{d e:a->b->c->Prop}(f:a)(g:b)(h:c)(i:d f g h)(j:e f g h):∃f g h,d f g h/\e f g h:=⟨f,g,h,i,j⟩
theorem sa{a b c:Type}{d e f:a->b->c->Prop}(g:a)(h:b)(i:c)(j:d g h i)(k:e g h i)(l:f g h i):∃g h i,d g h i/\e g h i/\f g h i:=⟨g,h,i,j,k,l⟩
theorem u6{a b c:Type}{d e f g:a->b->c->Prop}(h:a)(i:b)(j:c)(k:d h i j)(l:e h i j)(m:f h i j)(n:g h i j):∃h i j,d h i j/\e h i j/\f h i j/\g h i j:=⟨h,i,j,k,l,m,n⟩
theorem BZ{a b c:Type}{d e f g h:a->b->c->Prop}(i:a)(j:b)(k:c)(l:d i j k)(m:e i j k)(n:f i j k)(o:g i j k)(p:h i j k):∃i j k,d i j k/\e i j k/\f i j k/\g i j k/\h i j k:=⟨i,j,k,l,m,n,o,p⟩
theorem Ib{a b c d:Type}{e f:a->b->c->d->Prop}(g:a)(h:b)(i:c)(j:d)(k:e g h i j)(l:f g h i j):∃g h i j,e g h i j/\f g h i j:=⟨g,h,i,j,k,l⟩
theorem Ic{a b c d:Type}{e f g:a->b->c->d->Prop}(h:a)(i:b)(j:c)(k:d)(l:e h i j k)(m:f h i j k)(n:g h i j k):∃h i j k,e h i j k/\f h i j k/\g h i j k:=⟨h,i,j,k,l,m,n⟩
theorem Ie{a b c d:Type}{e f g h:a->b->c->d->Prop}(i:a)(j:b)(k:c)(l:d)(m:e i j k l)(n:f i j k l)(o:g i j k l)(p:h i j k l):∃i j k l,e i j k l/\f i j k l/\g i j k l/\h i j k l:=⟨i,j,k,l,m,n,o,p⟩
theorem Ig{a b c d:Type}{e f g h i:a->b->c->d->Prop}(j:a)(k:b)(l:c)(m:d)(n:e j k l m)(o:f j k l m)(p:g j k l m)(q:h j k l m)(r:i j k l m):∃j k l m,e j k l m/\f j k l m/\g j k l m/\h j k l m/\i j k l m:=⟨j,k,l,m,n,o,p,q,r⟩
theorem Ih{a b c:Type}{d e f g h i j k:a->b->c->Prop}{l:Prop}(m:∃n o p,d n o p/\e n o p/\f n o p/\g n o p/\h n o p/\i n o p/\j n o p/\k n o p)(q:∀n o p,d n o p->e n o p->f n o p->g n o p->h n o p->i n o p->j n o p->k n o p->l):l:=by obtain⟨n,o,p,r,s,t,u,v,w,x,y⟩:=m;exact q n o p r s t u v w x y
theorem gz{a:Prop}(b:∀c:Prop,(a->c)->c):a:=b a id
@[elab_as_elim]theorem Ii{a:Type}{b:a}{c:a}{d e f:Prop}{g:a->Prop}(h:c=b/\d/\e/\f)(i:d->e->f->g b):g c:=by obtain⟨rfl,j,k,l⟩:=h;exact i j k l
section
namespace LQ
noncomputable def lK:List Int->List Int->Int|a::b,c::d=>a*c+lK b d|_,_=>0
noncomputable def sc(a:Int)(b:List Int):List Int:=bR [] (λc _ d=>Int.mul a c::d) b
noncomputable def nN(a b:Int)(c:List Int):List Int->List Int:=bR (sc b) (λd c e f=>dz f (sc a (d::c)) λg f=>Int.add (Int.mul a d) (Int.mul b g)::e f) c
theorem sd(a)(b c):lK (sc a b) c=a*lK b c:=by induction b generalizing c with|nil=>exact(cK a).symm|cons d b e=>induction c with|nil=>exact(cK a).symm|cons f c=>show a*d*f+lK (sc a b) c=a*(d*f+lK b c);rw[e,iY,fV]
theorem t7(a b)(c d e):lK (nN a b c d) e=a*lK c e+b*lK d e:=by induction c generalizing d e with|nil=>exact(sd b d e).trans ((congrArg (·+_) (cK a)).trans (ef _)).symm|cons f c g=>induction d with|nil=>exact(sd a (f::c) e).trans ((congrArg (_+·) (cK b)).trans (cz _)).symm|cons h d=>induction e with|nil=>exact((congr (congrArg f0 (cK a)) (cK b)).trans (cz 0)).symm|cons i e=>show(a*f+b*h)*i+lK (nN a b c d) e=a*(f*i+lK c e)+b*(h*i+lK d e);rw[g,iY,iY,gR,fV,fV];rw[cZ,cZ,Int.add_left_comm (b*(h*i))]
abbrev LC:=Bool×List Int
noncomputable def LC.ok(a:List Int)(b:LC):Prop:=0<=lK b.2 a/\(b.1=I->lK b.2 a<=0)
noncomputable def cf(a:LC):Nat->Int:=bR (λ_=>0) (λb _ c d=>kC d b c) a.2
noncomputable def pq(a:Int):Bool:=iZ a (λb=>b.beq 0) λ_=>ak
noncomputable def s0(a:Int):Bool:=iZ a (λ_=>ak) λ_=>I
noncomputable def wA(a:List Int):Nat:=bR 0 (λb _ c=>Nat.gcd b.natAbs c) a
noncomputable def wB(a:Int)(b:List Int):List Int:=bR [] (λc _ d=>Int.ediv c a::d) b
noncomputable def yT(a:Int)(b:List Int)(c:Nat):List Int:=bf (hU 1 c) (a::b) (Int.ediv a (bJ c)::wB (bJ c) b)
noncomputable def B0(a:List Int):List Int:=dz a [] λb c=>yT b c (wA c)
noncomputable def wC(a:LC):LC:=bf a.1 (ak,B0 a.2) a
noncomputable def yU(a b:LC)(c d:Int):LC:=bf (pq d) (wC (b.1,nN (bJ c.natAbs) (bf (s0 c) (Int.neg d) d) b.2 a.2)) b
noncomputable def B1(a:Nat)(b c:LC):LC:=wC (ak,nN (bJ (cf c a).natAbs) (bJ (cf b a).natAbs) b.2 c.2)
noncomputable def u7(a:Nat)(b:List LC):Option LC:=bR D (λc _ d=>bf c.1 d (bf (pq (cf c a)) (Z c) d)) b
noncomputable def B2(a:Nat)(b:LC)(c:Int)(d:List LC):List LC:=bR [] (λe _ f=>yU b e c (cf e a)::f) d
noncomputable def u8(a:Nat)(b:List LC):List LC->List LC->List LC->List LC×List LC×List LC:=bR (λc d e=>(c,d,e)) (λf _ g c d e=>bf (pq (cf f a)) (bf (s0 (cf f a)) (g c (f::d) e) (g c d (f::e))) (g (f::c) d e)) b
noncomputable def row(a:Nat)(b:LC)(c d:List LC):List LC:=bR d (λe _ f=>B1 a b e::f) c
noncomputable def B3(a:Nat)(b:List LC×List LC×List LC):List LC:=bR b.1 (λc _ d=>row a c b.2.2 d) b.2.1
noncomputable def elim(a:Nat)(b:List LC):List LC:=c0 (u7 a b) (B3 a (u8 a b [] [] [])) λc=>B2 a c (cf c a) b
noncomputable def u9(a:List Int):Bool:=bR I (λb _ c=>bf (pq b) ak c) a
noncomputable def lX(a:LC):Bool:=dz a.2 ak λb c=>bf (u9 c) ak (bf (s0 b) (bf a.1 ak (bf (pq b) I ak)) I)
noncomputable def fI(a:Int)(b:Int->Bool):Bool:=iZ a (λc=>kC c (b (.ofNat 0)) λd=>b (.ofNat d.succ)) λc=>kC c (b (.negSucc 0)) λd=>b (.negSucc d.succ)
noncomputable def fL(a:List Int):(List Int->Bool)->Bool:=bR (λb=>b []) (λc _ d b=>fI c λc=>d λe=>b (c::e)) a
noncomputable def fC(a:LC)(b:LC->Bool):Bool:=fL a.2 λc=>bf a.1 (b (ak,c)) (b (I,c))
noncomputable def fS(a:List LC):(List LC->Bool)->Bool:=bR (λb=>b []) (λc _ d b=>fC c λc=>d λe=>b (c::e)) a
theorem Ij(a)(b:Int->Bool):fI a b=b a:=by cases a with|ofNat c=>cases c<;>rfl|negSucc c=>cases c<;>rfl
theorem Ik(a)(b:List Int->Bool):fL a b=b a:=by induction a generalizing b with|nil=>rfl|cons c d e=>show fI c (λc=>fL d λd=>b (c::d))=_;rw[Ij];exact e _
theorem Il(a)(b:LC->Bool):fC a b=b a:=(Ik a.2 _).trans (by obtain⟨c,d⟩:=a;cases c<;>rfl)
theorem B4(a)(b:List LC->Bool):fS a b=b a:=by induction a generalizing b with|nil=>rfl|cons c d e=>show fC c (λc=>fS d λd=>b (c::d))=_;rw[Il];exact e _
noncomputable def m7(a:List LC):Bool:=bR ak (λb _ c=>bf (lX b) c I) a
noncomputable def B5(a:List Nat):List LC->Bool:=bR m7 (λb _ c d=>fS (elim b d) c) a
section
variable{a:List Int}
theorem Im(b):∀c∈b,(wA b:Int)∣c:=by induction b with|nil=>exact c9 _|cons a d e=>exact List.forall_mem_cons.mpr ⟨Int.ofNat_dvd_left.mpr (Nat.gcd_dvd_left _ _),λc f=>Int.dvd_trans (Int.ofNat_dvd.mpr (Nat.gcd_dvd_right _ _)) (e c f)⟩
theorem Io(b)(c d)(a:∀e∈c,b∣e):lK c d=b*lK (wB b c) d:=by induction c generalizing d with|nil=>exact(cK b).symm|cons e f g=>induction d with|nil=>exact(cK b).symm|cons h d=>show e*h+lK f d=b*(e/b*h+lK (wB b f) d);refine ah (congrArg _ (g d λi j=>a i (.tail _ j))) ?_;rw[iY,←fV,Int.mul_ediv_cancel' (a e (.head _))]
theorem Ip{b}(c:0<=lK b (1::a)):0<=lK (B0 b) (1::a):=by induction b with|nil=>exact c|cons d e=>show 0<=lK (yT d e (wA e)) _;have f:=Im e;generalize wA e=g at f;unfold yT;cases h:hU 1 g with|false=>exact c|true=>have i:(0:Int)<g:=Int.ofNat_lt.mpr (gk Nat.zero_lt_one (Nat.ble_eq.mp h));have c:0<=d*1+lK e a:=c;rw[Io _ e a f,i3,eh]at c;show 0<=d/(g:Int)*1+lK (wB (g:Int) e) a;have:=cV c (bj i);rw[Int.mul_add_ediv_left _ _ (cA i)]at this;rw[i3,eh];exact this
theorem yV{b}(c:b.ok (1::a)):(wC b).ok (1::a):=by obtain⟨d,e⟩:=b;induction d with|true=>exact c|false=>exact⟨Ip c.1,λc=>nomatch c⟩
theorem Iq{b c}{d e}(f:b.1=I)(g:b.ok (1::a))(h:c.ok (1::a)):(yU b c d e).ok (1::a):=by
 unfold yU;cases pq e with|true=>exact h|false=>
  have i:=gy (g.2 f) g.1;refine yV ⟨?_,λj=>?_⟩;·show 0<=lK (nN _ _ _ _) _;rw[t7,i,cK,cz];exact cC (dR _) h.1
  ·show lK (nN _ _ _ _) _<=0;rw[t7,i,gy (h.2 j) h.1,cK,cK];exact Int.le_refl _
theorem Ir{b}{c d}(e:c.ok (1::a))(f:d.ok (1::a)):(B1 b c d).ok (1::a):=by refine yV ⟨?_,λe=>nomatch e⟩;show 0<=lK (nN _ _ _ _) _;rw[t7];exact ei (cC (dR _) e.1) (cC (dR _) f.1)
noncomputable abbrev Ok(a:List Int)(b:List LC):Prop:=∀c∈b,LC.ok a c
theorem nI{a}:Ok a []:=c9 _
theorem n6{a}{b}{c}(d:b.ok a)(e:Ok a c):Ok a (b::c):=List.forall_mem_cons.mpr ⟨d,e⟩
theorem sf{a}{b}{c}(d:Ok a (b::c)):b.ok a:=d b (.head _)
theorem rp{a}{b}{c}(d:Ok a (b::c)):Ok a c:=λe f=>d e (.tail _ f)
theorem B6{b}{c}{d}(e:Ok (1::a) c):u7 b c=Z d->d.ok (1::a)/\d.1=I:=by induction c with|nil=>intro f;cases f|cons g h i=>show dX (u7 b h) (dX (Z g) (u7 b h) (pq (cf g b))) g.1=Z d->_;cases j:g.1 with|false=>exact i (rp e)|true=>cases pq (cf g b)with|true=>exact i (rp e)|false=>intro f;refine(aa f)▸?_;exact⟨sf e,j⟩
theorem yW{b}{c d e f}(g:Ok (1::a) c)(h:Ok (1::a) d)(i:Ok (1::a) e)(j:Ok (1::a) f):Ok (1::a) (u8 b c d e f).1/\Ok (1::a) (u8 b c d e f).2.1/\Ok (1::a) (u8 b c d e f).2.2:=by induction c generalizing d e f with|nil=>exact⟨h,i,j⟩|cons k l m=>unfold u8;dsimp only;cases pq (cf k b)with|true=>exact m (rp g) (n6 (sf g) h) i j|false=>cases s0 (cf k b)with|false=>exact m (rp g) h (n6 (sf g) i) j|true=>exact m (rp g) h i (n6 (sf g) j)
theorem Iu{b}{c}{d e}(f:c.ok (1::a))(g:Ok (1::a) d)(h:Ok (1::a) e):Ok (1::a) (row b c d e):=by induction d with|nil=>exact h|cons i j k=>exact n6 (Ir f (sf g)) (k (rp g))
theorem Iv{b}{c d e}(f:Ok (1::a) c)(g:Ok (1::a) d)(h:Ok (1::a) e):Ok (1::a) (B3 b (c,d,e)):=by induction d with|nil=>exact f|cons i j k=>exact Iu (sf g) h (k (rp g))
theorem Iw{b}{c}{d}{e}(f:c.1=I)(g:c.ok (1::a))(h:Ok (1::a) e):Ok (1::a) (B2 b c d e):=by induction e with|nil=>exact nI|cons i j k=>exact n6 (Iq f g (sf h)) (k (rp h))
theorem Ix{b}{c}(d:Ok (1::a) c):Ok (1::a) (elim b c):=by unfold elim;cases e:u7 b c with|none=>exact Iv (yW d nI nI nI).1 (yW d nI nI nI).2.1 (yW d nI nI nI).2.2|some f=>exact Iw (B6 d e).2 (B6 d e).1 d
theorem Iy{b}(a:pq b=I):b=0:=by induction b with|ofNat c=>exact congrArg bJ (cm a)|negSucc c=>exact bw a
theorem Iz{b}(a:s0 b=I):b<0:=by induction b with|ofNat c=>exact bw a|negSucc c=>exact kN c
theorem IA(b c):u9 b=I->lK b c=0:=by induction b generalizing c with|nil=>intro _;rfl|cons a b d=>induction c with|nil=>intro _;rfl|cons e c=>show dX ak (u9 b) (pq a)=I->a*e+lK b c=0;cases f:pq a with|false=>exactλg=>bw g|true=>intro g;refine ah (congrArg _ (d c g)) ?_;refine(Iy f).symm▸?_;rw[jT];rfl
theorem IB{b}(c:b.ok (1::a)):lX b=I->False:=by obtain⟨d,e⟩:=b;induction e with|nil=>exactλf=>bw f|cons g h=>have i:0<=g*1+lK h a:=c.1;have j:d=I->g*1+lK h a<=0:=c.2;show dX ak (dX (dX ak (dX I ak (pq g)) d) I (s0 g)) (u9 h)=I->False;cases k:u9 h with|false=>exactλf=>bw f|true=>rw[IA h a k,i3,cz]at i j;cases l:s0 g with|true=>exactλ_=>absurd i (Int.not_le.mpr (Iz l))|false=>induction d with|false=>exactλf=>bw f|true=>refine(gy (j rfl) i)▸?_;exactλf=>bw f
theorem IC(b):∀c:List LC,B5 b c=I->Ok (1::a) c->False:=by
 induction b with
 |nil=>intro c;induction c with|nil=>exactλd=>bw d|cons e f g=>show dX (m7 f) I (lX e)=I->_;cases h:lX e with|false=>exactλd i=>g d (rp i)|true=>exactλ_ i=>IB (sf i) h
 |cons j b g=>exactλc d i=>g _ ((B4 _ _).symm.trans d) (Ix i)
end
set_option genCtorIdx false in
inductive LN where|x(i:Nat)|k(c:Nat)|p(a b:LN)|m(c:Nat)(a:LN)|w(a:LN)(c:Nat)
set_option genCtorIdx false in
inductive LE where|x(i:Nat)|k(c:Int)|n(a:LN)|p(a b:LE)|s(a b:LE)|m(c:Int)(a:LE)|w(a:LE)(c:Int)|g(a:LE)
set_option genCtorIdx false in
inductive LF where|l(a b:LE)|t(a b:LE)|e(a b:LE)|L(a b:LN)|T(a b:LN)|E(a b:LN)|A(p q:LF)|O(p q:LF)|N(p:LF)|F
set_option genCtorIdx false in
inductive LD where|d(e:LE)(c:Int)|m(e:LE)(c:Int)|v(a:LN)(c:Nat)|s(a b:LN)|t(e:LE)
structure LK where
 vs:List Nat
 ds:List LD
 hs:List LF
 g:LF
noncomputable def LN.a:LN:=.x 0
noncomputable def LN.b:LN:=.x 1
noncomputable def LN.c:LN:=.x 2
noncomputable def LN.d:LN:=.x 3
noncomputable def LN.e:LN:=.x 4
noncomputable def LN.f:LN:=.x 5
noncomputable def LN.o:LN:=.k 0
noncomputable def LN.u:LN:=.k 1
noncomputable def LE.o:LE:=.k 0
noncomputable def LE.u:LE:=.k 1
noncomputable def LE.a:LE:=.x 0
noncomputable def LE.b:LE:=.x 1
noncomputable def LE.c:LE:=.x 2
noncomputable def LE.d:LE:=.x 3
noncomputable def LE.e:LE:=.x 4
noncomputable def LE.f:LE:=.x 5
noncomputable def LE.h:LE:=.x 6
noncomputable def LE.i:LE:=.x 7
noncomputable def LE.j:LE:=.x 8
noncomputable def LN.D(a:List Nat)(b:LN):Nat:=LN.rec (λc=>a.getD c 0) (λd=>d) (λ_ _ e f=>e+f) (λd _ e=>d*e) (λ_ d e=>e*d) b
noncomputable def LE.D(a:List Int)(b:List Nat)(c:LE):Int:=LE.rec (λd=>a.getD d 0) (λe=>e) (λc=>c.D b) (λ_ _ f g=>f+g) (λ_ _ f g=>f-g) (λe _ f=>e*f) (λ_ e f=>f*e) (λ_ f=>-f) c
noncomputable def LF.D(a:List Int)(b:List Nat)(c:LF):Prop:=LF.rec (λd e=>d.D a b<=e.D a b) (λd e=>d.D a b<e.D a b) (λd e=>d.D a b=e.D a b) (λd e=>d.D b<=e.D b) (λd e=>d.D b<e.D b) (λd e=>d.D b=e.D b) (λ_ _ c f=>c/\f) (λ_ _ c f=>c\/f) (λ_ c=>¬c) False c
noncomputable def ng(a:Nat):List Int:=aO a 0++[1]
noncomputable def LN.V(a:Nat)(b:LN):List Int:=LN.rec (λc=>ng (a+c+1)) (λd=>[(d:Int)]) (λ_ _ e f=>nN 1 1 e f) (λd _ e=>sc d e) (λ_ d e=>sc d e) b
noncomputable def LE.V(a:Nat)(b:LE):List Int:=LE.rec (λc=>bif hU c a then ng (c+1)else[]) (λd=>[d]) (λb=>b.V a) (λ_ _ e f=>nN 1 1 e f) (λ_ _ e f=>nN 1 (-1) e f) (λd _ e=>sc d e) (λ_ d e=>sc d e) (λ_ e=>sc (-1) e) b
noncomputable def LN.K(a:Nat)(b:LN):Bool:=LN.rec (λc=>hU c a) (λ_=>I) (λ_ _ d e=>d&&e) (λ_ _ d=>d) (λ_ _ d=>d) b
noncomputable def LE.K(a b:Nat)(c:LE):Bool:=LE.rec (λd=>hU d a) (λ_=>I) (λc=>c.K b) (λ_ _ e f=>e&&f) (λ_ _ e f=>e&&f) (λ_ _ e=>e) (λ_ _ e=>e) (λ_ e=>e) c
noncomputable def pR(a b:List Int)(c:Int):LC:=(ak,nN 1 (-1) (nN 1 1 b [c]) a)
noncomputable def u_(a b:List Int):LC:=(I,nN 1 (-1) a b)
noncomputable def wD(a:Bool)(b c:List Int):List (List LC):=bif a then[[pR b c 0]]else[[pR c b (-1)]]
noncomputable def wE(a:Bool)(b c:List Int):List (List LC):=bif a then[[pR b c (-1)]]else[[pR c b 0]]
noncomputable def wF(a:Bool)(b c:List Int):List (List LC):=bif a then[[u_ b c]]else[[pR b c (-1)],[pR c b (-1)]]
noncomputable def yX(a b:List (List LC)):List (List LC):=a.flatMap λc=>b.map (c++·)
noncomputable def LF.cl(a:Nat)(b:LF):Bool->List (List LC):=LF.rec (λb c d=>wD d (b.V a) (c.V a)) (λb c d=>wE d (b.V a) (c.V a)) (λb c d=>wF d (b.V a) (c.V a)) (λb c d=>wD d (b.V a) (c.V a)) (λb c d=>wE d (b.V a) (c.V a)) (λb c d=>wF d (b.V a) (c.V a)) (λ_ _ b c d=>bif d then yX (b d) (c d)else b d++c d) (λ_ _ b c d=>bif d then b d++c d else yX (b d) (c d)) (λ_ b d=>b !d) (λd=>bif d then[]else[[]]) b
noncomputable def pos(a:Int):Bool:=iZ a (hU 0) λ_=>ak
noncomputable def vb(a b:List Int):List (List LC):=[[u_ a b],[u_ a [],pR b [] (-1)]]
noncomputable def yY(a b:List Int)(c:Int):List (List LC):=bif pos c then[[pR (sc c a) b 0,pR b (sc c a) (c-1)]]else[[]]
noncomputable def wG(a b c:List Int)(d:Int):List (List LC):=bif pos d then[[u_ c (nN d 1 a b),pR [] b 0,pR b [d] (-1)]]else[[]]
noncomputable def B7(a:Nat)(b:List LD):Nat->Nat->Option (List (List (List LC))):=bR (λ_ _=>Z []) (λc _ d e f=>LD.rec (λg h=>bif g.K e f then(d (e+1) f).map (yY (ng (e+1)) (g.V a) h::·)else D) (λg h=>bif g.K e f then(d (e+2) f).map (wG (ng (e+1)) (ng (e+2)) (g.V a) h::·)else D) (λi h=>bif i.K f then(d e (f+2)).map (wG (ng (a+f+1)) (ng (a+f+2)) (i.V a) h::·)else D) (λi j=>bif i.K f&&j.K f then(d e (f+1)).map (vb (ng (a+f+1)) (nN 1 (-1) (i.V a) (j.V a))::·)else D) (λg=>bif g.K e f then(d e (f+1)).map (vb (ng (a+f+1)) (g.V a)::·)else D) c) b
noncomputable def cI(a:List LD):Nat->Nat:=bR (λb=>b) (λc _ d b=>LD.rec (λ_ _=>d (b+1)) (λ_ _=>d (b+2)) (λ_ _=>d b) (λ_ _=>d b) (λ_=>d b) c) a
noncomputable def cN(a:List LD):Nat->Nat:=bR (λb=>b) (λc _ d b=>LD.rec (λ_ _=>d b) (λ_ _=>d b) (λ_ _=>d (b+2)) (λ_ _=>d (b+1)) (λ_=>d (b+1)) c) a
noncomputable def run(a:List Nat)(b:List (List (List LC))):List LC->Bool:=bR (λc=>fS (c.map wC) (B5 a)) (λd _ e c=>bR I (λf _ g=>bf (e (f++c)) ak g) d) b
noncomputable def B8(a:Nat)(b:Nat):List LC:=Nat.rec [] (λb c=>(ak,ng (a+b+1))::c) b
noncomputable def LK.c(a:LK)(b c:Nat):Bool:=c0 (B7 (cI a.ds b) a.ds b c) ak λd=>run a.vs (d++(a.hs.map (λe=>e.cl (cI a.ds b) I)++[a.g.cl (cI a.ds b) ak])) (B8 (cI a.ds b) (cN a.ds c))
noncomputable def B9(a:List Int)(b:List Nat)(c:Prop)(d:List LF):Prop:=bR c (λe _ f=>e.D a b->f) d
noncomputable def ext(a:List LD):List Int->List Nat->(List Int->List Nat->Prop)->Prop:=bR (λb c d=>d b c) (λe _ f b c d=>LD.rec (λg h=>f (b++[g.D b c/h]) c d) (λg h=>f (b++[g.D b c/h,g.D b c%h]) c d) (λi h=>f b (c++[i.D c/h,i.D c%h]) d) (λi j=>f b (c++[i.D c-j.D c]) d) (λg=>f b (c++[(g.D b c).toNat]) d) e) a
noncomputable def cx(a:List Int)(b:List Nat):List Int:=1::(a++b.map bJ)
section
variable{a:List Int}{b:List Nat}
theorem B_(c)(d):lK (ng c) d=d.getD c 0:=by
 induction c generalizing d with
 |zero=>induction d with|nil=>rfl|cons a d=>show(1:Int)*a+0=a;rw[cW,cz]
 |succ c b=>induction d with|nil=>rfl|cons a d=>show 0*a+lK (ng c) d=d.getD c 0;rw[b,jT,ef]
theorem yZ(c d e):lK (nN 1 1 c d) e=lK c e+lK d e:=(t7 _ _ _ _ _).trans (congr (congrArg f0 (cW _)) (cW _))
theorem wH(c d e):lK (nN 1 (-1) c d) e=lK c e-lK d e:=(t7 _ _ _ _ _).trans ((congr (congrArg f0 (cW _)) (Int.neg_one_mul _)).trans Int.sub_eq_add_neg.symm)
theorem wI(c):lK [c] (cx a b)=c:=(cz _).trans (i3 c)
theorem y5{c:Type}{d:c}(e f:List c)(g):(e++f).getD (e.length+g) d=f.getD g d:=by induction e with|nil=>show f.getD (0+g) d=_;rw[Nat.zero_add]|cons a e b=>show(a::(e++f)).getD (e.length+1+g) d=_;rw[Nat.add_right_comm];exact b
theorem y6{c:Type}{d:c}(e f:List c)(g)(a:g<e.length):(e++f).getD g d=e.getD g d:=by induction e generalizing g with|nil=>exact absurd a (gA g)|cons b e h=>induction g with|zero=>rfl|succ g=>exact h g (ej a)
theorem ID(c:List Int)(d)(a:c.length<=d):c.getD d 0=0:=by induction c generalizing d with|nil=>rfl|cons b c e=>induction d with|zero=>exact absurd a (Nat.not_succ_le_zero _)|succ d=>exact e d (jU a)
theorem IE(b:List Nat)(c):(b.map bJ).getD c 0=(b.getD c 0:Int):=by induction b generalizing c with|nil=>rfl|cons a d e=>induction c with|zero=>rfl|succ c=>exact e c
theorem IF(c:Nat):(cx a b).getD (a.length+c+1) 0=(b.getD c 0:Int):=(y5 _ _ _).trans (IE _ _)
theorem ui{c}(d:c<a.length):lK (ng (c+1)) (cx a b)=a.getD c 0:=(B_ _ _).trans (y6 _ _ _ d)
theorem un(c):lK (ng (a.length+c+1)) (cx a b)=(b.getD c 0:Int):=(B_ _ _).trans (IF c)
theorem nv(c:LN):lK (c.V a.length) (cx a b)=(c.D b:Int):=by induction c with|x d=>exact un d|k e=>exact wI _|p c f g h=>exact(yZ (c.V a.length) (f.V a.length) _).trans (congr (congrArg f0 g) h)|m e c i=>exact(sd _ (c.V a.length) _).trans (congrArg _ i)|w c e i=>exact(sd _ (c.V a.length) _).trans ((congrArg _ i).trans (e_ _ _))
theorem ev(c:LE):lK (c.V a.length) (cx a b)=c.D a b:=by
 induction c with
 |x d=>show lK (bif hU d a.length then ng (d+1)else[]) _=a.getD d 0;cases e:hU d a.length with|true=>exact ui (Nat.ble_eq.mp e)|false=>exact(ID _ _ (Nat.le_of_not_lt λf=>bw (e.symm.trans (Nat.ble_eq.mpr f)))).symm
 |k g=>exact wI _|n c=>exact nv c|p c h i j=>exact(yZ (c.V a.length) (h.V a.length) _).trans (congr (congrArg f0 i) j)|s c h i j=>exact(wH (c.V a.length) (h.V a.length) _).trans (congr (congrArg HSub.hSub i) j)|m g c k=>exact(sd _ (c.V a.length) _).trans (congrArg _ k)|w c g k=>exact(sd _ (c.V a.length) _).trans ((congrArg _ k).trans (e_ _ _))|g c k=>exact(sd _ (c.V a.length) _).trans ((congrArg _ k).trans (Int.neg_one_mul _))
theorem c2{c:Type}{f:c->c->c}{d e g h:c}(a:d=g)(b:e=h):f d e=f g h:=congr (congrArg f a) b
theorem kn(a)(c:LN):c.K b.length=I->c.D (b++a)=c.D b:=by induction c with|x d=>exactλe=>y6 _ _ _ (Nat.ble_eq.mp e)|k f=>exactλ_=>rfl|p c g h i=>exactλe=>(c2 (f:=f0) (h ((Bool.and_eq_true_iff.mp e).1)) (i ((Bool.and_eq_true_iff.mp e).2)):)|m f c j=>exactλe=>(congrArg (f*·) (j e):)|w c f j=>exactλe=>(congrArg (·*f) (j e):)
theorem ke(c)(d:List Nat)(e:LE):e.K a.length b.length=I->e.D (a++c) (b++d)=e.D a b:=by induction e with|x f=>exactλg=>y6 _ _ _ (Nat.ble_eq.mp g)|k h=>exactλ_=>rfl|n e=>exactλg=>(congrArg bJ (kn d e g):)|p e i j k=>exactλg=>(c2 (f:=f0) (j ((Bool.and_eq_true_iff.mp g).1)) (k ((Bool.and_eq_true_iff.mp g).2)):)|s e i j k=>exactλg=>(c2 (f:=HSub.hSub) (j ((Bool.and_eq_true_iff.mp g).1)) (k ((Bool.and_eq_true_iff.mp g).2)):)|m h e l=>exactλg=>(congrArg (h*·) (l g):)|w e h l=>exactλg=>(congrArg (·*h) (l g):)|g e l=>exactλg=>(congrArg (-·) (l g):)
theorem uk{c}{b}{d e}(f:a.length=e)(g:d<c.length):lK (ng (e+d+1)) (cx (a++c) b)=c.getD d 0:=f▸(ui (List.length_append.symm▸Nat.add_lt_add_left g _)).trans (y5 _ _ _)
theorem wJ{c:List Int}{d}{e f g:Nat}{h:LE}(i:a.length=f)(j:b.length=g)(k:(a++c).length=e)(l:h.K f g=I):lK (h.V e) (cx (a++c) (b++d))=h.D a b:=k▸(ev h).trans (ke _ _ _ (i▸j▸l))
theorem wK{c:List Int}{a:List Nat}{d e}{f:LN}(g:b.length=e)(h:c.length=d)(i:f.K e=I):lK (f.V d) (cx c (b++a))=(f.D b:Int):=h▸(nv f).trans (congrArg bJ (kn _ _ (g▸i)))
theorem wL{c}{a}{d e}(f)(g:b.length=e)(h:c.length=d):lK (ng (d+e+f+1)) (cx c (b++a))=(a.getD f 0:Int):=g▸h▸(congrArg (λi=>lK (ng (i+1)) _) (Nat.add_assoc _ _ _)).trans ((un (b.length+f)).trans (congrArg bJ (y5 b a f)))
theorem qq{c d}{e}(f:lK c (cx a b)<=lK d (cx a b)+e):(pR c d e).ok (cx a b):=by refine⟨?_,λf=>nomatch f⟩;refine(wH _ _ _).symm▸Int.sub_nonneg_of_le ?_;exact(yZ _ _ _).symm▸(wI e).symm▸f
theorem wM{c d}(e:lK c (cx a b)=lK d (cx a b)):(u_ c d).ok (cx a b):=by have f:lK (nN 1 (-1) c d) (cx a b)=0:=(wH _ _ _).trans (Int.sub_eq_zero_of_eq e);exact⟨gm f.symm,λ_=>gm f⟩
noncomputable abbrev mZ(a:List Int)(b:List Nat)(c:List (List LC)):Prop:=∃d∈c,∀e∈d,LC.ok (cx a b) e
theorem vc{c}(d:Ok (cx a b) c):mZ a b [c]:=⟨c,.head _,d⟩
theorem vd{c}(d:c.ok (cx a b)):mZ a b [[c]]:=vc (n6 d nI)
theorem IG{c d}(e:c.ok (cx a b)\/d.ok (cx a b)):mZ a b [[c],[d]]:=e.elim (λe=>⟨_,.head _,n6 e nI⟩) λe=>⟨_,.tail _ (.head _),n6 e nI⟩
theorem Ca{c d}(e:mZ a b c)(f:mZ a b d):mZ a b (yX c d):=by obtain⟨g,h,e⟩:=e;obtain⟨i,j,f⟩:=f;exact⟨g++i,List.mem_flatMap.mpr ⟨g,h,List.mem_map.mpr ⟨i,j,rfl⟩⟩,λk l=>(List.mem_append.mp l).elim (e k) (f k)⟩
theorem Cb{c d}(e:mZ a b c\/mZ a b d):mZ a b (c++d):=by
 rcases e with⟨f,g,e⟩|⟨f,g,e⟩;·exact⟨f,eI _ g,e⟩
 ·exact⟨f,List.mem_append_right _ g,e⟩
theorem Cc{c:Prop}{d e}{f g}(h:lK d (cx a b)=f)(i:lK e (cx a b)=g)(j:c↔f<=g):(c->mZ a b (wD I d e))/\(¬c->mZ a b (wD ak d e)):=by subst h i;exact⟨λk=>vd (qq ((cz _).symm▸j.mp k)),λk=>vd (qq (bZ (Int.not_le.mp (mt j.mpr k))))⟩
theorem Cd{c:Prop}{d e}{f g}(h:lK d (cx a b)=f)(i:lK e (cx a b)=g)(j:c↔f<g):(c->mZ a b (wE I d e))/\(¬c->mZ a b (wE ak d e)):=by subst h i;exact⟨λk=>vd (qq (bZ (j.mp k))),λk=>vd (qq ((cz _).symm▸Int.not_lt.mp (mt j.mpr k)))⟩
theorem Ce{c:Prop}{d e}{f g}(h:lK d (cx a b)=f)(i:lK e (cx a b)=g)(j:c↔f=g):(c->mZ a b (wF I d e))/\(¬c->mZ a b (wF ak d e)):=by subst h i;exact⟨λk=>vd (wM (j.mp k)),λk=>IG ((Int.lt_or_gt_of_ne (mt j.mpr k)).imp (λk=>qq (bZ k)) (λk=>qq (bZ k)))⟩
theorem Cf(c:LF):(c.D a b->mZ a b (c.cl a.length I))/\(¬c.D a b->mZ a b (c.cl a.length ak)):=by induction c with|l c d=>exact Cc (ev _) (ev _) Iff.rfl|t c d=>exact Cd (ev _) (ev _) Iff.rfl|e c d=>exact Ce (ev _) (ev _) Iff.rfl|L c d=>exact Cc (nv _) (nv _) Int.ofNat_le.symm|T c d=>exact Cd (nv _) (nv _) Int.ofNat_lt.symm|E c d=>exact Ce (nv _) (nv _) Int.ofNat_inj.symm|A c d e f=>exact⟨λg=>Ca (e.1 g.1) (f.1 g.2),λg=>Cb ((Classical.not_and_iff_not_or_not.mp g).imp e.2 f.2)⟩|O c d e f=>exact⟨λg=>Cb (g.imp e.1 f.1),λg=>Ca (e.2 λh=>g (.inl h)) (f.2 λh=>g (.inr h))⟩|N c i=>exact⟨i.2,λg=>i.1 (Classical.not_not.mp g)⟩|F=>exact⟨λg=>g.elim,λ_=>⟨[],.head _,λj k=>nomatch k⟩⟩
theorem IH{c:List LC->Bool}{d}:(bR I (λe _ f=>bf (c e) ak f) d:Bool)=I->∀e∈d,c e=I:=by induction d with|nil=>exactλ_=>c9 _|cons e d a=>show(dX ak _ (c e):Bool)=I->_;cases b:c e with|false=>exactλg=>bw g|true=>exactλg=>List.forall_mem_cons.mpr ⟨b,a g⟩
theorem II(c)(d:List (List (List LC))):∀e:List LC,run c d e=I->Ok (cx a b) e->(∀f∈d,mZ a b f)->False:=by induction d with|nil=>exactλe g h _=>IC _ _ ((B4 _ _).symm.trans g) (List.forall_mem_map.mpr λf i=>yV (h f i))|cons f j k=>exactλe g h l=>(l f (.head _)).elim λm i=>k (m++e) (IH (c:=λm=>run c j (m++e)) g m i.1) (λn o=>(List.mem_append.mp o).elim (i.2 n) (h n)) λf i=>l f (.tail _ i)
theorem IJ(c):Ok (cx a b) (B8 a.length c):=by induction c with|zero=>exact nI|succ c d=>exact n6 ⟨(un c).symm▸dR _,λe=>nomatch e⟩ d
theorem Cg{c d}(e:(lK d (cx a b)<0/\lK c (cx a b)=0)\/lK c (cx a b)=lK d (cx a b)):mZ a b (vb c d):=by
 refine e.elim (λe=>?_) λe=>?_;·exact⟨_,.tail _ (.head _),n6 (wM e.2) (n6 (qq (bZ e.1)) nI)⟩
 ·exact⟨_,.head _,n6 (wM e) nI⟩
theorem Ci{c}(a:pos c=I):0<c:=by induction c with|ofNat b=>exact Int.ofNat_lt.mpr (Nat.ble_eq.mp a)|negSucc b=>exact bw a
theorem IK{c d}{e}(f:lK c (cx a b)=lK d (cx a b)/e):mZ a b (yY c d e):=by unfold yY;cases g:pos e with|false=>exact vc nI|true=>have h:=Ci g;have i:=bz (lK d (cx a b)) (cA h);have j:=eA (lK d (cx a b)) e;rw[←f]at j;have k:=sd e c (cx a b);exact vc (n6 (qq (k.symm▸(cz _).symm▸Int.le_of_sub_nonneg ((Int.sub_eq_iff_eq_add'.mpr j.symm).symm▸i))) (n6 (qq (k.symm▸j▸eQ (bZ (bq (lK d (cx a b)) h)) _)) nI))
theorem Cj{c d e}{f}(g:lK c (cx a b)=lK e (cx a b)/f)(h:lK d (cx a b)=lK e (cx a b)%f):mZ a b (wG c d e f):=by unfold wG;cases i:pos f with|false=>exact vc nI|true=>have j:=Ci i;have k:=bz (lK e (cx a b)) (cA j);have l:=bq (lK e (cx a b)) j;have m:=eA (lK e (cx a b)) f;rw[←g,←h]at m;rw[←h]at k l;exact vc (n6 (wM (by rw[t7,cW];exact m.symm)) (n6 (qq ((cz _).symm▸k)) (n6 (qq ((wI _).symm▸bZ l)) nI)))
end
theorem IL{a}{b}{c:Prop}{d}(e:(∀f∈d,f.D a b)->c):B9 a b c d:=by induction d with|nil=>exact e (c9 _)|cons f g h=>exactλi=>h λj=>e (List.forall_mem_cons.mpr ⟨i,j⟩)
theorem ve{a}{b:Option (List (List (List LC)))}{c}{d:List (List (List LC))}{e:Prop}(f:(bif a then b.map (c::·)else D)=Z d)(g:a=I->∀h,b=Z h->c::h=d->e):e:=by cases a with|false=>exact nomatch f|true=>cases b with|none=>exact nomatch f|some h=>exact g rfl h rfl (aa f)
noncomputable def no(a:Nat)(b:List Int->List Nat->Prop)(c:Nat)(d:List (List (List LC)))(e:List Int)(f:List Nat):Prop:=∀g h,(e++g).length=a->(f++h).length=c->(∀i∈d,mZ (e++g) (f++h) i)->b (e++g) (f++h)
section
variable{c d:Nat}{e:List Int->List Nat->Prop}{a g:List Int}{b h:List Nat}{i:List (List LC)}{f j:List (List (List LC))}
theorem vf{k:List Int->List Int}{l:List Nat->List Nat}(m:i::j=f)(n:no c e d f a b)(o:∀p,g++p=a++k p)(q:∀r,h++r=b++l r)(s:∀p r,(a++k p).length=c->mZ (a++k p) (b++l r) i):no c e d j g h:=λp r=>by rw[o,q];exactλt u v=>n _ _ t u (m▸List.forall_mem_cons.mpr ⟨s p r t,v⟩)
theorem IM(g:no c e d f a b)(h:Z []=Z f)(i:a.length=c)(j:b.length=d):e a b:=by have k:=g [] [];rw[cU,cU]at k;exact k i j ((aa h)▸c9 _)
theorem y9{k:Type}{l:List k}{m}{n:k}(a:l.length=m):(l++[n]).length=m+1:=List.length_append.trans (congrArg (·+1) a)
theorem Ck{k:Type}{l:List k}{m}{n o:k}(a:l.length=m):(l++[n,o]).length=m+2:=List.length_append.trans (congrArg (·+2) a)
theorem y_{k l}{m n o}(c:lK m (cx a b)=((k-l:Nat):Int))(d:lK n (cx a b)=(k:Int))(e:lK o (cx a b)=(l:Int)):mZ a b (vb m (nN 1 (-1) n o)):=by refine Cg ?_;rw[wH,c,d,e];exact(jV k l).imp (λf=>⟨Int.sub_neg_of_lt (Int.ofNat_lt.mpr f),congrArg bJ (kl (bB f))⟩) λf=>Int.ofNat_sub f
theorem IN{k}{l m}(c:lK l (cx a b)=(k.toNat:Int))(d:lK m (cx a b)=k):mZ a b (vb l m):=by refine Cg ?_;rw[c,d];exact(Int.lt_or_le k 0).imp (λe=>⟨e,congrArg bJ (kO (bj e))⟩) λe=>eR e
end
theorem IP(a b)(c:List Int->List Nat->Prop)(d):∀e f g h i,B7 a d e f=Z g->cI d e=a->cN d f=b->h.length=e->i.length=f->no a c b g h i->ext d h i c:=by induction d with|nil=>exactλe f g h i j k l m n o=>IM o j (m.trans k) (n.trans l)|cons p q r=>induction p with|d s t=>exactλe f g h i j k l m n o=>ve j λu v w x=>r _ _ v _ _ w k l (y9 m) n (vf x o (λy=>bP _ _ y) (λ_=>rfl) λy z s=>IK ((uk (c:=_::_) (d:=0) m (iJ _)).trans (congrArg (·/t) (wJ m n s u).symm)))|m s t=>exactλe f g h i j k l m n o=>ve j λu v w x=>r _ _ v _ _ w k l (Ck m) n (vf x o (λy=>bP _ _ y) (λ_=>rfl) λy z s=>Cj ((uk (c:=_::_) (d:=0) m (iJ _)).trans (congrArg (·/t) (wJ m n s u).symm)) ((uk (c:=_::_::_) (d:=1) m (Nat.succ_lt_succ (iJ _))).trans (congrArg (·%t) (wJ m n s u).symm)))|v A t=>exactλe f g h i j k l m n o=>ve j λu v w x=>r _ _ v _ _ w k l m (Ck n) (vf x o (λ_=>rfl) (λz=>bP _ _ z) λy z s=>Cj ((wL (a:=_::_) 0 n s).trans (congrArg (·/(t:Int)) (wK n s u).symm)) ((wL (a:=_::_::_) 1 n s).trans (congrArg (·%(t:Int)) (wK n s u).symm)))|s A B=>exactλe f g h i j k l m n o=>ve j λu v w x=>r _ _ v _ _ w k l m (y9 n) (vf x o (λ_=>rfl) (λz=>bP _ _ z) λy z s=>y_ (wL (a:=_::_) 0 n s) (wK n s (Bool.and_eq_true_iff.mp u).1) (wK n s (Bool.and_eq_true_iff.mp u).2))|t s=>exactλe f g h i j k l m n o=>ve j λu v w x=>r _ _ v _ _ w k l m (y9 n) (vf x o (λ_=>rfl) (λz=>bP _ _ z) λy z s=>IN (wL (a:=_::_) 0 n s) (wJ m n s u))
theorem IQ{a:Type}{b:a->Bool}{c:Option a}{d:Prop}(e:(c0 c ak b:Bool)=I)(f:∀g,c=Z g->b g=I->d):d:=by cases c with|none=>exact nomatch e|some g=>exact f g rfl e
end LQ
open LQ in
noncomputable def LT(a:LK)(b:List Int)(c:List Nat):Prop:=ext a.ds b c λb c=>B9 b c (a.g.D b c) a.hs
open LQ in
theorem Y(a:List Int)(b)(c)(d:c.c a.length b.length=I:=by kernel_rfl):LT c a b:=by refine IQ d λe f g=>IP (cI c.ds a.length) (cN c.ds b.length) _ c.ds _ _ e _ _ f rfl rfl rfl rfl λh i j k l=>IL λm=>Classical.byContradiction λn=>?_;exact II _ _ _ g (j▸k▸IJ _) (List.forall_mem_append.mpr ⟨l,List.forall_mem_append.mpr ⟨List.forall_mem_map.mpr λo p=>j▸(Cf o).1 (m o p),List.forall_mem_cons.mpr ⟨j▸(Cf c.g).2 n,c9 _⟩⟩⟩)
theorem qQ:LT ⟨[3,2,1],[.m .a 16],[.A (.t (.k 512) .a) (.A (.e .c .o) (.l .a (.k 576)))],.A (.l .o .a) (.l .a (.k 1000))⟩ [a] []:=Y _ _ _
theorem rr:LT ⟨[3,2,1],[.m .a 16],[.A (.l .o .a) (.l .a (.k 1000)),.e .c .o],.A (.l .o .a) (.t .a (.k 4096))⟩ [a] []:=Y _ _ _
theorem rt:LT ⟨[1],[],[.N (.e .a .b)],.N (.e (.p (.k 128) .a) (.p (.k 128) .b))⟩ [a,b] []:=Y _ _ _
theorem sg:LT ⟨[1],[.m .a 4],[],.e (.p (.w .b 4) .c) .a⟩ [a] []:=Y _ _ _
theorem s5:LT ⟨[1],[],[.L (.p .a (.m 8 (.p .b .u))) (.k 9000)],.L (.p .a (.m 8 .b)) (.k 9000)⟩ [] [a,b]:=Y _ _ _
theorem s6:LT ⟨[3,2,1],[.m .a 16],[.A (.l .o .a) (.t .a (.k 4096)),.e .c .o],.l .o .b⟩ [a] []:=Y _ _ _
theorem s7:LT ⟨[1,3],[.m .a 4],[],.l .o .c⟩ [a] []:=Y _ _ _
theorem s8:LT ⟨[1,3],[.m .a 4],[],.t .c (.k 4)⟩ [a] []:=Y _ _ _
theorem s9:LT ⟨[1,4,2],[.m (.p (.m 16 .b) .a) 16],[.O (.e .a .o) (.e .a (.k 5))],.e (.s (.p (.m 16 .b) .a) .d) (.m 16 .b)⟩ [a,b] []:=Y _ _ _
theorem t8:LT ⟨[1],[],[.l .o .a],.l .o (.p (.m 16 .a) .o)⟩ [a] []:=Y _ _ _
theorem vg:LT ⟨[1],[],[.L (.p .a (.p .b .u)) (.k 990)],.L (.p .a .b) (.k 990)⟩ [] [a,b]:=Y _ _ _
theorem vh:LT ⟨[1],[],[.L (.p .a .u) .b],.L .a .b⟩ [] [a,b]:=Y _ _ _
theorem vi:LT ⟨[1],[],[.l .a (.k 15)],.t (.p (.m 16 .a) .o) (.k 256)⟩ [a] []:=Y _ _ _
theorem vj:LT ⟨[2,7,4,5,8,1,6,3],[.m .a 16,.m .b 4,.d (.p .a (.m 4 .f)) 4,.d .a 4],[.A (.t (.k 512) .a) (.A (.e .d .o) (.l .a (.k 576)))],.e .h (.p .i .f)⟩ [a,b] []:=Y _ _ _
theorem vk:LT ⟨[3,2,5,1,6,4],[.m .a 16,.m .b 4],[.A (.t (.k 512) .a) (.A (.e .d .o) (.l .a (.k 576)))],.A (.l .o (.p .a (.m 4 .f))) (.l (.p (.p .a (.m 4 .f)) (.k 4)) (.k 1024))⟩ [a,b] []:=Y _ _ _
theorem vl:LT ⟨[2,1],[],[.L (.p .a (.p .b .u)) .c],.T .a .c⟩ [] [a,b,c]:=Y _ _ _
theorem vm:LT ⟨[4,2,3,1],[.s .a .u],[.L .u .a,.L (.p .a (.p .b .u)) .c],.T .d .c⟩ [] [a,b,c]:=Y _ _ _
theorem wN:LT ⟨[3,2,1],[.d .a 16,.d .b 4,.d .a 64],[],.e .c .d⟩ [a] []:=Y _ _ _
theorem wO:LT ⟨[4,3,2,1],[.d .a 16,.d .b 4,.d (.p (.k 512) (.m 4 .c)) 4,.d .a 64],[],.e .d (.p (.k 128) .e)⟩ [a] []:=Y _ _ _
theorem wP:LT ⟨[1,2,3],[.m .a 2],[.l .o .a,.t .a (.k 1024)],.A (.l .o (.s (.p .a .u) .c)) (.t (.s (.p .a .u) .c) (.k 1024))⟩ [a] []:=Y _ _ _
theorem wQ:LT ⟨[1,3],[.m .a 4],[],.A (.l .o .c) (.t .c (.k 4))⟩ [a] []:=Y _ _ _
theorem wR:LT ⟨[1],[],[.A (.l .o .a) (.l .a (.k 16))],.l .o (.m 16 .a)⟩ [a] []:=Y _ _ _
theorem wS:LT ⟨[1,4,2,8,7],[.m .a 16,.m .b 4,.m (.p .a (.m 4 .f)) 4],[.A (.t (.k 512) .a) (.A (.e .d .o) (.l .a (.k 576)))],.e .i .o⟩ [a,b] []:=Y _ _ _
theorem wT:LT ⟨[1],[.s .a .u],[.L .u .a],.T .b .a⟩ [] [a]:=Y _ _ _
theorem za:LT ⟨[1],[.d (.p (.k 512) (.m 4 .a)) 4],[],.e .b (.p (.k 128) .a)⟩ [a] []:=Y _ _ _
theorem zb:LT ⟨[1],[],[.l .o .a],.t (.k (-1000000000000000)) .a⟩ [a] []:=Y _ _ _
theorem zc:LT ⟨[1,3,5,2],[.m .a 16,.m .a 4],[.e .c .o],.e .e .o⟩ [a] []:=Y _ _ _
theorem zd:LT ⟨[4,2,5,1,3],[.d .a 16,.d .b 4,.d (.p (.k 512) (.m 4 .c)) 4,.d .a 64],[.l .o .a,.e .d (.p (.k 128) .e)],.l .o (.p (.k 512) (.m 4 .c))⟩ [a] []:=Y _ _ _
theorem ze:LT ⟨[4,2,5,1,3],[.d .a 16,.d .b 4,.d (.p (.k 512) (.m 4 .c)) 4,.d .a 64],[.t .a (.k 256),.e .d (.p (.k 128) .e)],.l (.p (.p (.k 512) (.m 4 .c)) (.k 4)) (.k 1024)⟩ [a] []:=Y _ _ _
theorem zf:LT ⟨[5,6,1,2,3],[.d .a 16,.d .b 4,.d .a 64,.m (.p (.k 512) (.m 4 .c)) 4],[.e .e (.p (.k 128) .d)],.e .f .o⟩ [a] []:=Y _ _ _
theorem zg:LT ⟨[1,2],[],[.L .a (.k 4000),.L .b .a],.L (.p .b (.k 4)) (.k 4096)⟩ [] [a,b]:=Y _ _ _
theorem zh:LT ⟨[1,3,5,2,6,4],[.m .c 16,.d .c 4],[.A (.l .o .a) (.t .a (.k 4)),.l .o .b,.A (.t (.k 512) .c) (.A (.e .e .o) (.l .c (.k 576)))],.N (.e (.p .f .b) (.p (.k 128) .a))⟩ [a,b,c] []:=Y _ _ _
theorem zi:LT ⟨[3,1,4,2],[.d .a 16,.m .b 4],[],.l .o .d⟩ [a] []:=Y _ _ _
theorem zj:LT ⟨[3,1,4,2],[.d .a 16,.m .b 4],[],.t .d (.k 4)⟩ [a] []:=Y _ _ _
theorem zl:LT ⟨[3,2,1,5],[.d .a 64,.d .a 16,.m .c 4],[],.e (.p (.w .b 4) .e) .c⟩ [a] []:=Y _ _ _
theorem zm:LT ⟨[1,2],[.d .a 64],[.l .o .a],.l .o .b⟩ [a] []:=Y _ _ _
theorem zn:LT ⟨[1,2],[.d .a 64],[.t .a (.k 256)],.t .b (.k 4)⟩ [a] []:=Y _ _ _
theorem zo:LT ⟨[2,1],[.d (.p (.m 16 .a) .o) 64,.d .a 4],[],.e .b .c⟩ [a] []:=Y _ _ _
theorem zp:LT ⟨[1,2],[.d .a 4],[.l .o .a],.l .o .b⟩ [a] []:=Y _ _ _
theorem zq:LT ⟨[1,3],[.m (.p (.m 16 .a) .o) 16],[.e .b .a],.e .c .o⟩ [a] []:=Y _ _ _
theorem zr:LT ⟨[1,3],[],[.L .a .b,.L .c (.p .a .u)],.L .c (.p .b (.k 10))⟩ [] [a,b,c]:=Y _ _ _
theorem zt:LT ⟨[1],[],[.L .a .b],.L .a (.p .b (.k 10))⟩ [] [a,b]:=Y _ _ _
theorem zu:LT ⟨[1],[],[.A (.l .o .a) (.l .a (.k 16)),.N (.e .a (.k 16))],.t (.m 16 .a) (.k 256)⟩ [a] []:=Y _ _ _
theorem zv:LT ⟨[1],[],[.l .o .a],.l .o (.p (.m 64 .a) .o)⟩ [a] []:=Y _ _ _
theorem zw:LT ⟨[1],[],[.N (.t (.k 3) .a)],.t (.p (.m 64 .a) .o) (.k 256)⟩ [a] []:=Y _ _ _
theorem zx:LT ⟨[4,1,3,2],[.s .b .u],[.T .a .b,.T .b (.p .c .u)],.T .d .c⟩ [] [a,b,c]:=Y _ _ _
theorem zy:LT ⟨[1],[],[.A (.l .o .a) (.t .a (.k 16))],.l .o (.p (.m 16 .a) (.k 3))⟩ [a] []:=Y _ _ _
theorem zz:LT ⟨[1],[],[.A (.l .o .a) (.t .a (.k 16))],.t (.p (.m 16 .a) (.k 3)) (.k 256)⟩ [a] []:=Y _ _ _
theorem zA:LT ⟨[2,1],[.d .a 16],[.A (.l .o .a) (.t .a (.k 4096))],.t (.k (-1000000000000000)) .b⟩ [a] []:=Y _ _ _
theorem zC:LT ⟨[2,1],[.d .a 16],[.A (.l .o .a) (.t .a (.k 4096))],.t .b (.k 1000000000000000)⟩ [a] []:=Y _ _ _
theorem lk{a b c}(d:a<=b)(e:Nat.ble b c=I):a<=c:=ao d (km e)
theorem mm{a b c d}(e:b<=c)(f:a<=b)(g:Nat.ble c d=I):a<=d:=lk (ao f e) g
end
section
set_option genCtorIdx false in
inductive V where|g|h(b:Bool)|a(i:Int)|d(s:List Nat)|f(b:List Nat)|e(vs:List V)|c(vs:List V)|b(i:Nat)|i(a:Nat)
set_option genCtorIdx false in
inductive MO where|c(vs:List V)|m(es:List (Int×V))|a(C:Nat)(d:Nat)|b(es:List (Nat×V))
set_option genCtorIdx false in
structure MS where
 σ:List MO
 mu:Nat
set_option genCtorIdx false in
structure XC where
 c:Nat
 a:Int
inductive R(α:Type)where|ok(a:α)(S:MS)|c(e:XC)(S:MS)|b
noncomputable abbrev M(a:Type):=MS->R a
theorem nn{a:Type}{b:a}{c:Prop}(d:D=Z b):c:=kq rfl (heq_of_eq d)
theorem ft{a:Prop}(b:ak=I):a:=bw b
noncomputable def mO{a b c:Type}(d:a->b->c)(e:Option a)(f:Option b):Option c:=match e with
 |some g=>match f with|some h=>Z (d g h)|D=>D
 |D=>D
theorem ru{a b c:Type}{d:a->b->c}{e:Option a}{f:Option b}{g:c}(h:mO d e f=Z g):∃i j,e=Z i/\f=Z j/\d i j=g:=by induction e with|none=>exact nn h|some i=>induction f with|none=>exact nn h|some j=>exact⟨i,j,rfl,rfl,aa h⟩
theorem t9{a b:Type}{c:a->b}{d:Option a}{e:b}(f:d.map c=Z e):∃g,d=Z g/\c g=e:=Option.map_eq_some_iff.mp f
section
variable{b c:Type}{a:Prop}
theorem mI{d}{e:Option b}{f:b}(c:(bif d then e else D)=Z f)(g:d=I->e=Z f->a):a:=by induction d with|false=>exact nn c|true=>exact g rfl c
theorem t_{d}{e:Option b}{f:b}(c:(bif d then D else e)=Z f)(g:d=ak->e=Z f->a):a:=by induction d with|true=>exact nn c|false=>exact g rfl c
theorem lC(b:(d&&e)=I)(c:d=I->e=I->a):a:=by induction d with|false=>exact ft b|true=>exact c rfl b
end
noncomputable def M.pure{a:Type}(b:a):M a:=λc=>.ok b c
noncomputable def M.bind{a e:Type}(m:M a)(b:a->M e):M e:=λc=>match m c with|.ok f g=>b f g|.c h g=>.c h g|.b=>.b
noncomputable def M.b{a:Type}:M a:=λ_=>.b
noncomputable instance:Monad M where pure:=M.pure;bind:=M.bind
noncomputable def M.c{a:Type}:Option a->M a|some e=>M.pure e|D=>M.b
noncomputable def M.lG{a e:Type}(b:Option a)(c:a->M e):M e:=match b with|some f=>c f|D=>M.b
set_option genCtorIdx false in
inductive LV where|a(v:V)|b(vs:List V)
noncomputable abbrev Ro:=List (Nat×LV)
noncomputable def kZ{a:Type}(b:Nat):List (Nat×a)->Option a|[]=>D|c::d=>bif c.1==b then Z c.2 else kZ b d
noncomputable def k9{a:Type}(b:Nat)(c:a):List (Nat×a)->List (Nat×a)|[]=>[(b,c)]|d::e=>bif d.1==b then(b,c)::e else d::k9 b c e
inductive s_ where|b|abs|sum|min|d|s|a|h|f|c|u deriving DecidableEq
set_option genCtorIdx false in
inductive ls where|b(x:Nat)|f(v:V)|k(op:gI)(a b:ls)|un(op:UnaryOp)(a:ls)|d(es:List ls)|g(es:List ls)|n(a:ls)(ops:List jW)(es:List ls)|o(t a b:ls)|q(e:ls)(name:Nat)|l(f:Nat)(args:List ls)|r(C:Nat)(args:List ls)|p(e:ls)(name:Nat)(args:List ls)|l6(p:s_)(args:List ls)|e(es:List ls)|c(es:List ls)|h|i|j(e i:ls)|a(e:ls)(lo hi:Option ls)|t(e:ls)|lc(elt:ls)(qR:Nat⊕List Nat)(kd:Nat)(its:List ls)(ifs:List ls)|v(pre:List Nat)(e:ls)(post:List Nat)
inductive Hn where|d(v:V)|a(x y:Nat)|lX
set_option genCtorIdx false in
inductive lT where|f(x:Nat)(e:ls)|c(xs:List Nat)(e:ls)|i(o:ls)(name:Nat)(e:ls)|n(o i:ls)(e:ls)|r(x:Nat)|j(x:Nat)(e:ls)|o(x:Nat)(e:ls)|m(x:Nat)|p(x:Nat)(op:gI)(e:ls)|q(o:ls)(name:Nat)(op:gI)(e:ls)|g(e:ls)|k(t:ls)(a b:List lT)|a(t:ls)(b:List lT)|h(qR:Nat⊕List Nat)(kd:Nat)(its:List ls)(b:List lT)|d(e:ls)|o0|e|b(C:Nat)(args:List ls)|l(b:List lT)(hs:List (Nat×Hn))|s(b:List lT)(C:Nat)|lX
set_option genCtorIdx false in
structure Fn where
 a:List Nat
 b:List V
 c:List lT
inductive XK where|a|b
set_option genCtorIdx false in
structure PT where
 fn:Nat->Option Fn
 h:Nat->Nat->Option Nat
 c:Nat->Option Nat
 a:Nat->Option XK
 j:Nat->Nat->Bool
 d:Nat->Option (List (List Nat×Int))e:Nat->Nat->Bool
 g:Nat->Nat->Bool
 f:Nat
 k:Nat
 b:Nat
 i:Nat
 l:Nat
inductive Fl where|a|e|d(v:V)|c(e:XC)
set_option genCtorIdx false in
structure nq where
 ev:Ro->ls->M V
 b:Ro->ls->M Bool
 ex:Ro->lT->M (Ro×Fl)l:Nat->List V->M V
noncomputable def mE:Nat:=2^20
noncomputable def oX(a:Int):Bool:=a.natAbs<2^64
noncomputable def qS(a:Int->Int->Option V)(b c:V):Option V:=match b with
 |.a d=>match c with|.a e=>a d e|_=>D
 |_=>D
noncomputable def zD(a b:V):Option V:=match a with
 |.a c=>match b with|.a d=>Z (.a (c+d))|_=>D
 |.d c=>match b with|.d d=>if c.length+d.length<=mE then Z (.d (c++d))else D|_=>D
 |.c c=>match b with|.c d=>if c.length+d.length<=mE then Z (.c (c++d))else D|_=>D
 |_=>D
noncomputable def zE(a b:V):Option V:=match b with
 |.a c=>match a with|.a d=>if oX d&&oX c then Z (.a (d*c))else D|.c d=>if 0<=c&&c<=1&&d.length<=4096 then Z (.c ((aO c.toNat d).flatten))else D|.d d=>if 0<=c&&c<=1&&d.length<=4096 then Z (.d ((aO c.toNat d).flatten))else D|.f d=>if 2<=c&&c<=4096&&d.length==1 then Z (.f ((aO c.toNat d).flatten))else D|_=>D
 |_=>D
noncomputable def lU(a:gI)(b c:V):Option V:=match a with|.Add=>zD b c|.Sub=>qS (λd e=>Z (.a (d-e))) b c|.Mult=>zE b c|.FloorDiv=>qS (λd e=>if 0<e&&e<1073741824 then Z (.a (d/e))else D) b c|.Mod=>qS (λd e=>if 0<e then Z (.a (d%e))else D) b c|.Pow=>qS (λd e=>if oX d&&0<=e&&e<=1000 then Z (.a (d^e.toNat))else D) b c|.LShift=>qS (λd e=>if oX d&&0<=e&&e<=1000 then Z (.a (d*2^e.toNat))else D) b c|.RShift=>qS (λd e=>if 0<=e then Z (.a (d/2^e.toNat))else D) b c|.BitAnd=>qS (λd e=>Z (.a (ae d e))) b c|.BitOr=>qS (λd e=>Z (.a (ai d e))) b c|_=>D
noncomputable def iO{a:Type}(b:Int->Option a):V->Option a|.a c=>b c|_=>D
theorem zF{a:Type}{b:Int->Option a}{c:a}(d:iO b e=Z c):∃f,e=.a f/\b f=Z c:=by cases e with|a f=>exact lQ f rfl d|_=>exact nn d
noncomputable def ua:gI->V->V->Option V|.Add=>λa b=>iO (λc=>iO (λd=>Z (.a (c+d))) b) a|_=>λ_ _=>D
noncomputable def unop:UnaryOp->V->Option V|.USub=>iO λa=>Z (.a (-a))|.Invert=>iO λa=>Z (.a (br a))|_=>λ_=>D
noncomputable def pS(a:V->V->Option Bool):List V->List V->Option Bool|[],[]=>Z I|b::c,d::e=>mO and (a b d) (pS a c e)|[],_::_=>Z ak|_::_,[]=>Z ak
noncomputable def zG(a:List V->List V->Option Bool)(b c:V):Option Bool:=match b with
 |.g=>match c with|.g=>Z I|_=>D
 |.a d=>match c with|.a e=>Z (d==e)|_=>D
 |.d d=>match c with|.d e=>Z (d==e)|_=>D
 |.h d=>match c with|.h e=>Z (d==e)|_=>D
 |.e d=>match c with|.e e=>a d e|_=>D
 |.c d=>match c with|.c e=>a d e|_=>D
 |_=>D
noncomputable def nu:Nat->V->V->Option Bool|0=>zG λ_ _=>D|a+1=>zG (pS (nu a))
noncomputable def iV:V->Option Int|.a a=>Z a|_=>D
noncomputable def ub(a:Int->Int->Bool)(b c:V):Option Bool:=match iV b with|some d=>(iV c).map (a d)|D=>D
noncomputable def IR(a:Bool):V->Option Bool|.g=>Z a|.a _=>Z !a|.e _=>Z !a|_=>D
noncomputable def zH(a:Bool)(b:V):V->Option Bool|.g=>IR a b|_=>D
noncomputable def Cn:jW->V->V->Option Bool|.Eq=>λa b=>nu 8 a b|.NotEq=>λa b=>(nu 8 a b).map (!·)|.Lt=>ub λa b=>aE (a<b)|.LtE=>ub λa b=>aE (a<=b)|.Gt=>ub λa b=>aE (b<a)|.GtE=>ub λa b=>aE (b<=a)|.Is=>zH I|.IsNot=>zH ak|_=>λ_ _=>D
noncomputable def nx:List V->Option (List Int)|[]=>Z []|.a a::b=>(nx b).map (a::·)|_=>D
noncomputable def ud:List V->Option (List (List Nat))|[]=>Z []|.d a::b=>(ud b).map (a::·)|_=>D
noncomputable def qT:List Int->List Int->Bool|a::b,c::d=>if a=c then qT b d else a<c|_,_=>ak
noncomputable def rx:List V->Option (List (List Int))|[]=>Z []|.e a::b=>mO iE (nx a) (rx b)|_=>D
noncomputable def td(a:Int):List Int->List Int|[]=>[a]|b::c=>if a<=b then a::b::c else b::td a c
noncomputable def rA:List Int->List Int|[]=>[]|a::b=>td a (rA b)
noncomputable def lY{a:Type}(b:Nat->Nat->Bool):ij a->a|.ret c=>c|.ask d e f=>lY b (f (b d e))
noncomputable def ue(a:List (List Int))(b:List V):List V:=if b.length<2 then b else(lY (λc d=>qT (a.getD c []) (a.getD d [])) (eL b.length)).toList.map λc=>b.getD c .g
noncomputable def sh(a:List V):Option (List V):=if a.length<64 then match nx a with|some b=>Z ((rA b).map .a)|D=>match rx a with|some c=>if c.all (λd=>d.length==(c.headD []).length&&0<d.length)then Z (ue c a)else D|D=>D else D
noncomputable def si(a b:Int):Nat->List V|0=>[]|c+1=>.a a::si (a+b) b c
noncomputable def te(a b c:Int):Option (List V):=if cR a b c&&aE (0<=aY a b c)&&aE (aY a b c<=4096)&&aE (c≠0)&&aE (c.natAbs<1073741824)then Z (si a c (aY a b c).toNat)else D
noncomputable def IS(a b c:V):List V->Option (List V)|[]=>iO (λd=>iO (λe=>iO (λf=>te d e f) c) b) a|_::_=>D
noncomputable def IT(a b:V):List V->Option (List V)|[]=>iO (λc=>iO (λd=>te c d 1) b) a|e::f=>IS a b e f
noncomputable def IU(a:V):List V->Option (List V)|[]=>iO (λb=>te 0 b 1) a|c::d=>IT a c d
noncomputable def qr:List V->Option (List V)|[]=>D|a::b=>IU a b
noncomputable def mL(a:Int)(b:List (Int×V)):Option V:=(b.find? λc=>aE (c.1=a)).map (·.2)
noncomputable def pT(a:Int)(b:V)(c:List (Int×V)):List (Int×V):=if c.any (λd=>aE (d.1=a))then c.map (λd=>if d.1=a then(d.1,b)else d)else c++[(a,b)]
noncomputable def qU(a:Int)(b:List (Int×V)):List (Int×V):=b.filter λc=>aE (c.1≠a)
noncomputable def qs(a:List Nat):List (List Nat)->List Nat|[]=>[]|[b]=>b|b::c=>b++a++qs a c
noncomputable def rC:Int->List V->List V|_,[]=>[]|a,b::c=>.e [.a a,b]::rC (a+1) c
noncomputable def pU:V->Option Bool|.g=>Z ak|.h a=>Z a|.a b=>Z (b !=0)|_=>D
noncomputable def a1(a:V->M V):List V->M V|[b]=>a b|_=>M.b
noncomputable def a2(a:V->V->M V):List V->M V|[b,c]=>a b c|_=>M.b
noncomputable def rM{a:Type}(b:Nat->M a):V->M a|.b c=>b c|_=>M.b
noncomputable def mR{a:Type}(b:Nat)(c:MO->M a):M a:=λd=>match d.σ[b]? with|some e=>c e d|D=>.b
noncomputable def lM{a:Type}(b:List V->M a):MO->M a|.c c=>b c|_=>M.b
noncomputable def uf{a:Type}(b:Nat->Nat->M a):MO->M a|.a c d=>b c d|_=>M.b
noncomputable def aM{a:Type}(b:List (Nat×V)->M a):MO->M a|.b c=>b c|_=>M.b
noncomputable def ug(a:Nat)(b:List V->M V):M V:=mR a (lM b)
noncomputable def tg(a:Nat):M V:=if a<=mE then M.pure (.a a)else M.b
noncomputable def Co:V->M V|.c a=>tg a.length|.f a=>tg a.length|.b b=>ug b λa=>tg a.length|_=>M.b
noncomputable def sj(a:List Int->M V):V->M V|.c b=>M.bind (M.c (nx b)) a|_=>M.b
noncomputable def oL(a:Int->M V):V->M V|.a b=>a b|_=>M.b
noncomputable def sk(a:Int->Int->M V)(b:V):V->M V:=oL λc=>oL (λd=>a d c) b
noncomputable def Cp:V->M V|.h a=>M.pure (.a (if a then 1 else 0))|_=>M.b
noncomputable def uh(a:List V):M V:=M.bind (M.c (sh a)) λb=>M.pure (.c b)
noncomputable def Cq:V->M V|.c a=>uh a|.b b=>ug b uh|_=>M.b
noncomputable def l6:s_->List V->M V|.b=>a1 Co|.abs=>a1 (oL λa=>M.pure (.a a.natAbs))|.sum=>a1 (sj λb=>M.pure (.a b.sum))|.min=>a2 (sk λc d=>M.pure (.a (if d<c then d else c)))|.d=>a2 (sk λc d=>if 0<d&&d<1073741824 then M.pure (.e [.a (c/d),.a (c%d)])else M.b)|.s=>a1 (oL λ_=>M.pure (.h I))|.a=>a1 Cp|.h=>a1 (oL λa=>M.pure (.h (a !=0)))|.f=>a1 (sj λb=>if b.all (λa=>0<=a&&a<256)&&b.length<=1 then M.pure (.f (b.map iK))else M.b)|.c=>a1 Cq|.u=>λe=>M.bind (M.c (qr e)) λf=>M.pure (.c f)
noncomputable def Cr(a:MO):M Nat:=λb=>.ok b.σ.length ⟨b.σ++[a],b.mu⟩
noncomputable def vn(a:PT)(b:V)(c:Nat):M V:=rM (λd=>mR d (uf λe f=>mR f (aM λg=>M.bind (M.c (kZ c g)) λb=>if a.e e c then M.pure b else M.b))) b
noncomputable def uj(a:PT)(b:V)(c:Nat)(d:V):M Unit:=rM (λe=>mR e (uf λf g=>mR g (aM λh=>if a.g f c&&h.length<=100 then(λi=>.ok () ⟨i.σ.set g (.b (k9 c d h)),i.mu+1⟩)else M.b))) b
noncomputable def idx(a:Int)(b:Nat):Option Nat:=if 0<=a&&a<=4096 then Z a.toNat else if a<0&&-(b:Int)<=a&&-4096<=a then Z (a+b).toNat else D
noncomputable def iM{a:Type}(b:Int->M a):V->M a|.a c=>b c|_=>M.b
noncomputable def sM{a:Type}(b:List Nat->M a):V->M a|.d c=>b c|_=>M.b
noncomputable def dM{a:Type}(b:List (Int×V)->M a):MO->M a|.m c=>b c|_=>M.b
noncomputable def mS(a:PT)(b c:V):M V:=match b with|.e d=>iM (λe=>M.c ((idx e d.length).bind λf=>d[f]?)) c|.c d=>iM (λe=>M.c ((idx e d.length).bind λf=>d[f]?)) c|.d g=>iM (λe=>if 0<=e&&e<=4096 then M.c (g[e.toNat]?.map λh=>.d [h])else M.b) c|.b f=>iM (λe=>mR f (dM λi=>M.c (mL e i))) c|.i j=>sM (λg=>M.c ((a.d j).bind λk=>(k.find? (·.1==g)).map λl=>.a l.2)) c|_=>M.b
noncomputable def rD(a b c:V):M Unit:=rM (λd=>iM (λe=>mR d (dM λf g=>if f.length<=4096 then .ok () ⟨g.σ.set d (.m (pT e c f)),g.mu+1⟩else .b)) b) a
noncomputable def wU{a:Type}(b:List a)(c:Int):Option (List a):=if 0<=c&&b.length<=mE then Z (b.take c.toNat)else D
noncomputable def zI{a:Type}(b:List a)(c d:Int):Option (List a):=if 0<=c&&0<=d&&b.length<=mE then Z ((b.take d.toNat).drop c.toNat)else D
noncomputable def IV{a:Type}(b:List a)(c:V):Option V->Option (List a)|D=>iO (wU b) c|some d=>iO (λe=>iO (zI b e) c) d
noncomputable def n7{a:Type}(b c:Option V)(d:List a):Option (List a):=match c with|some e=>IV d e b|D=>D
noncomputable def IW(a:PT)(b:Nat):MO->Bool|.c _=>b==a.f||(b==a.b||b==a.k)|.m _=>b==a.i||b==a.b|_=>ak
noncomputable def rE(a:PT)(b:Nat)(c:V)(d:MO):Bool:=match c with|.d _=>b==a.l|.b _=>IW a b d|_=>ak
noncomputable def zJ(a:List Nat):V->M V|.c b=>M.bind (M.c (ud b)) λc=>if b.length<=4096&&c.all (λd=>d.length<=200)&&a.length<=200 then M.pure (.d (qs a c))else M.b|_=>M.b
noncomputable def so(a:PT)(b:List Nat)(c:List V):M V:=a1 (zJ b) c
noncomputable def oY(a:Nat->List V->MS->List V->R V)(b:Nat)(c:List V):M V:=λd=>match d.σ[b]? with|some (.c e)=>if e.length<=4096 then a b e d c else .b|_=>.b
noncomputable def qV(a:Nat->List (Int×V)->MS->List V->R V)(b:Nat)(c:List V):M V:=λd=>match d.σ[b]? with|some (.m e)=>if e.length<=4096 then a b e d c else .b|_=>.b
noncomputable def vo(a:Nat)(b:List V)(c:MS):List V->R V|[d]=>.ok .g ⟨c.σ.set a (.c (b++[d])),c.mu+1⟩|_=>.b
noncomputable def vp(a:Nat)(b:List V)(c:MS):List V->R V
 |[]=>match b.getLast? with|some d=>.ok d ⟨c.σ.set a (.c b.dropLast),c.mu+1⟩|D=>.b
 |_=>.b
noncomputable def vq(a:Nat)(b:List V)(c:MS):V->R V
 |.a d=>match nx b with|some e=>if e.contains d then .ok .g ⟨c.σ.set a (.c ((e.erase d).map .a)),c.mu+1⟩else .b|D=>.b
 |_=>.b
noncomputable def vr(a:Nat)(b:List V)(c:MS):List V->R V|[d]=>vq a b c d|_=>.b
noncomputable def IX(a:List (Int×V))(b:MS)(c:V):V->R V|.a d=>.ok ((mL d a).getD c) b|_=>.b
noncomputable def vt(a:Nat)(b:List (Int×V))(c:MS):List V->R V|[d,e]=>IX b c e d|_=>.b
noncomputable def rF(a:Nat)(b:List (Int×V))(c:MS)(d:R V):V->R V
 |.a e=>match mL e b with|some f=>.ok f ⟨c.σ.set a (.m (qU e b)),c.mu+1⟩|D=>d
 |_=>.b
noncomputable def wV(a:Nat)(b:List (Int×V))(c:MS):List V->R V|[d]=>rF a b c .b d|[d,e]=>rF a b c (.ok e c) d|_=>.b
noncomputable def vu(a:PT)(b c:Nat)(d:List V):M V:=bif b==a.f then oY vo c d else bif b==a.b then oY vp c d else oY vr c d
noncomputable def qu(a:PT)(b c:Nat)(d:List V):M V:=bif b==a.i then qV vt c d else qV wV c d
noncomputable def IY(a:PT)(b c:Nat)(d:List V):MO->M V|.c _=>vu a b c d|.m _=>qu a b c d|_=>M.b
noncomputable def rG(a:PT)(b:Nat)(c:V)(d:MO)(e:List V):M V:=match c with|.d f=>so a f e|.b g=>IY a b g e d|_=>M.b
noncomputable def IZ(a:Int):MO->M Bool|.c b=>M.bind (M.c (nx b)) λc=>M.pure (c.contains a)|.m d=>M.pure (mL a d).isSome|_=>M.b
noncomputable def vv(a b:V):M Bool:=iM (λc=>rM (λd=>mR d (IZ c)) b) a
noncomputable def mz(a:jW)(b c:V):M Bool:=match a with|.In=>vv b c|.NotIn=>M.bind (vv b c) λd=>M.pure (!d)|a=>M.c (Cn a b c)
noncomputable def sq(a:V):M (List V):=match a with|.c b=>M.pure b|.e b=>M.pure b|.f c=>M.pure (c.map λd=>.a (d:Nat))|_=>M.b
noncomputable def rH(a:V):M (List V):=match a with
 |.b b=>λc=>match c.σ[b]? with|some (.c d)=>.ok d c|some (.m e)=>.ok (e.map λf=>.a f.1) c|_=>.b
 |a=>sq a
noncomputable def th(a:Bool)(b:V):M (List V):=bif a then rH b else sq b
noncomputable def mJ(a:Nat⊕List Nat)(b:V)(c:Ro):Option Ro:=match a with|.inl d=>Z (k9 d (.a b) c)|.inr e=>match b with|.e f=>bif e.length==f.length then Z ((e.zip f).foldl (λc g=>k9 g.1 (.a g.2) c) c)else D|_=>D
section
variable(b:PT)(a:nq)
noncomputable def mw(b:Ro):List ls->M (List V)|[]=>M.pure []|c::d=>M.bind (a.ev b c) λe=>M.bind (mw b d) λf=>M.pure (e::f)
noncomputable def wW(b:Ro):List ls->M V|[]=>M.b|[c]=>a.ev b c|c::d=>M.bind (a.ev b c) λe=>M.bind (M.c (pU e)) λf=>bif f then wW b d else M.pure e
noncomputable def wX(b:Ro):List ls->M V|[]=>M.b|[c]=>a.ev b c|c::d=>M.bind (a.ev b c) λe=>M.bind (M.c (pU e)) λf=>bif f then M.pure e else wX b d
noncomputable def oZ(b:Ro):List ls->M Bool|[]=>M.pure I|c::d=>M.bind (a.b b c) λe=>bif e then oZ b d else M.pure ak
noncomputable def qv(b:Ro):List ls->M Bool|[]=>M.pure ak|c::d=>M.bind (a.b b c) λe=>bif e then M.pure I else qv b d
noncomputable def qw(b:Ro)(c:V):List jW->List ls->M Bool|[d],[e]=>M.bind (a.ev b e) λf=>mz d c f|d::g,e::h=>M.bind (a.ev b e) λf=>M.bind (mz d c f) λi=>bif i then qw b f g h else M.pure ak|_,_=>M.b
noncomputable def ul(a:V):M (List V):=match a with|.d c=>bif c.all (·<128)then M.pure (rC 0 (c.map λb=>.d [b]))else M.b|_=>M.b
noncomputable def lS(b:Ro)(c:Bool):Nat->List ls->M (List V)|0,[d]=>M.bind (a.ev b d) (th c)|1,e=>M.bind (mw a b e) λf=>M.c (qr f)|2,[d]=>M.bind (a.ev b d) ul|_,_=>M.b
noncomputable def qz{c:Type}(a:M c):M c:=λb=>match a b with|.ok d e=>if e.mu=b.mu then .ok d e else .b|_=>.b
noncomputable def n8(b:Ro)(c:Nat⊕List Nat)(d:ls)(e:List ls):List V->M (List V)|[]=>M.pure []|f::g=>M.lG (mJ c f b) λh=>M.bind (qz (oZ a h e)) λi=>if i then M.bind (qz (a.ev h d)) λj=>M.bind (n8 b c d e g) λk=>M.pure (j::k)else n8 b c d e g
noncomputable def ti{c:Type}(a:V)(b:MO->M c):M c:=match a with|.b d=>mR d b|_=>b (.c [])
noncomputable def vw{c d:Type}(a:Option c)(b:M d):M d:=match a with|D=>b|some _=>M.b
noncomputable def vx(c:Ro)(d:Nat)(e:List ls)(f:V)(g:MO):M V:=match g with|.a h i=>mR i (aM λj=>vw (kZ d j) (M.lG (b.h h d) λk=>M.bind (mw a c e) λl=>a.l k (f::l)))|g=>if rE b d f g then M.bind (mw a c e) λl=>rG b d f g l else M.b
noncomputable def I0(a:Nat)(b:MS)(c:V):R V:=match c with|.g=>.ok (.b a) b|_=>.b
noncomputable def o0(a:Nat)(b:R V):R V:=match b with|.ok c d=>I0 a d c|.c e d=>.c e d|.b=>.b
noncomputable def su(b c:Nat)(d:List V):M V:=λe=>o0 (e.σ.length+1) (a.l c (.b (e.σ.length+1)::d) ⟨e.σ++[.b [],.a b e.σ.length],e.mu⟩)
noncomputable def zK(a b:List Nat):V->M V|.a c=>bif aE (c=1)then M.pure (.d (a++[49]++b))else M.b|_=>M.b
noncomputable def l_(c:Ro):ls->M V
 |.b d=>match kZ d c with|some (.a e)=>M.pure e|_=>M.b
 |.f e=>M.pure e|.k f g h=>M.bind (a.ev c g) λd=>M.bind (a.ev c h) λi=>M.c (lU f d i)|.un .Not j=>M.bind (a.ev c j) λe=>M.bind (M.c (pU e)) λh=>M.pure (.h (!h))|.un f g=>M.bind (a.ev c g) λd=>M.c (unop f d)|.d k=>wW a c k|.g k=>wX a c k|.n g l k=>M.bind (a.ev c g) λd=>M.bind (qw a c d l k) λh=>M.pure (.h h)|.o m g h=>M.bind (a.b c m) λn=>bif n then a.ev c g else a.ev c h|.q j o=>M.bind (a.ev c j) λe=>vn b e o|.l p q=>M.bind (mw a c q) λr=>a.l p r|.r s q=>M.bind (mw a c q) λr=>M.lG (b.c s) λp=>su a s p r|.p j o q=>M.bind (a.ev c j) λe=>ti e (vx b a c o q e)|.l6 t q=>M.bind (mw a c q) λr=>l6 t r|.e k=>M.bind (mw a c k) λr=>if r.length<=4096 then M.pure (.e r)else M.b|.c k=>M.bind (mw a c k) λr=>if r.length<=4096 then M.pure (.c r)else M.b|.h=>M.bind (Cr (.c [])) λu=>M.pure (.b u)|.i=>M.bind (Cr (.m [])) λu=>M.pure (.b u)|.j j u=>M.bind (a.ev c j) λe=>M.bind (a.ev c u) λv=>mS b e v|.a j lo w=>M.bind (a.ev c j) λe=>M.bind (match lo with|some d=>M.bind (a.ev c d) λg=>M.pure (Z g)|D=>M.pure D) λg=>M.bind (match w with|some d=>M.bind (a.ev c d) λh=>M.pure (Z h)|D=>M.pure D) λh=>match e with|.c r=>M.c ((n7 g h r).map .c)|.f x=>M.c ((n7 g h x).map .f)|_=>M.b
 |.t j=>M.bind (a.ev c j) λe=>match e with|.f x=>if x.length<=mE then M.pure (.f x.reverse)else M.b|_=>M.b
 |.lc y z A B C=>M.bind (lS a c I A B) λr=>M.bind (n8 a c z y C r) λE=>if E.length<=4096&&r.length<=8192 then M.pure (.c E)else M.b|.v F j G=>M.bind (a.ev c j) (zK F G)
noncomputable def tj(b:Ro):ls->M Bool|.un .Not c=>M.bind (a.b b c) λd=>M.pure (!d)|.d e=>oZ a b e|.g e=>qv a b e|.o f g d=>M.bind (a.b b f) λh=>bif h then a.b b g else a.b b d|.n g i e=>M.bind (a.ev b g) λj=>qw a b j i e|c=>M.bind (a.ev b c) λk=>M.c (pU k)
noncomputable def lN{c:Type}(a:Ro)(b:M c)(d:c->M (Ro×Fl)):M (Ro×Fl):=λe=>match b e with|.ok f g=>d f g|.c h g=>.ok (a,.c h) g|.b=>.b
noncomputable def lH:List lT->Ro->M (Ro×Fl)|[],c=>M.pure (c,.a)|d::e,c=>M.bind (a.ex c d) λb=>match b.2 with|.a=>lH e b.1|f=>M.pure (b.1,f)
noncomputable def mT(b:Nat⊕List Nat)(c:List lT):List V->Ro->M (Ro×Fl)|[],d=>M.pure (d,.a)|e::f,d=>M.lG (mJ b e d) λg=>M.bind (lH a c g) λh=>match h.2 with|.d e=>M.pure (h.1,.d e)|.c _=>M.b|_=>mT b c f h.1
noncomputable def qW{c:Type}(a:M c):M c:=λb=>match a b with|.ok d e=>.ok d e|_=>.b
noncomputable def oN(b:PT)(a:XC):List (Nat×Hn)->Option Hn|[]=>D|(c,d)::e=>if(b.a a.c).isSome&&(b.a c).isSome then(if b.j a.c c then Z d else oN b a e)else D
noncomputable def qX(a:Ro):Hn->M (Ro×Fl)
 |.d c=>M.pure (a,.d c)|.a d e=>match kZ d a,kZ e a with|some (.b f),some (.a c)=>if f.length<=4096 then M.pure (k9 d (.b (f++[c])) a,.a)else M.b|_,_=>M.b
 |.lX=>M.b
noncomputable def tl(a:Nat)(b:Option XK)(c:List V):Option XC:=match b with
 |some .a=>match c with
  |[d]=>match d with|.d e=>bif aE (e.length<=1000)then Z ⟨a,0⟩else D|_=>D
  |_=>D
 |some .b=>match c with
  |[f,g]=>match f with
   |.a h=>match g with|.a d=>bif aE (1<=h)&&(aE (h<=100)&&(aE (0<=d)&&aE (d<=100000)))then Z ⟨a,h⟩else D|_=>D
   |_=>D
  |_=>D
 |D=>D
noncomputable def lV(c:Ro):lT->M (Ro×Fl)
 |.f d e=>lN c (a.ev c e) λf=>M.pure (k9 d (.a f) c,.a)|.c g e=>lN c (a.ev c e) λf=>match mJ (.inr g) f c with|some h=>M.pure (h,.a)|D=>M.b
 |.i i j e=>lN c (a.ev c e) λf=>lN c (a.ev c i) λk=>lN c (uj b k j f) λ_=>M.pure (c,.a)|.n i l e=>lN c (a.ev c e) λf=>lN c (a.ev c i) λk=>lN c (a.ev c l) λm=>lN c (rD k m f) λ_=>M.pure (c,.a)|.r d=>M.pure (k9 d (.b []) c,.a)|.j d e=>match kZ d c with|some (.b n)=>lN c (a.ev c e) λf=>if n.length<=4096 then M.pure (k9 d (.b (n++[f])) c,.a)else M.b|_=>M.b
 |.o d e=>match kZ d c with
  |some (.b n)=>lN c (a.ev c e) λf=>match f with|.c o=>if n.length<=4096&&o.length<=4096 then M.pure (k9 d (.b (n++o)) c,.a)else M.b|_=>M.b
  |_=>M.b
 |.m d=>match kZ d c with|some (.b n)=>M.pure (k9 d (.a (.c n)) c,.a)|_=>M.pure (c,.a)
 |.p d p e=>match kZ d c with|some (.a q)=>lN c (a.ev c e) λr=>lN c (M.c (ua p q r)) λf=>M.pure (k9 d (.a f) c,.a)|_=>M.b
 |.q i j p e=>lN c (a.ev c i) λk=>lN c (M.bind (vn b k j) λq=>M.bind (a.ev c e) λr=>M.c (ua p q r)) λf=>lN c (uj b k j f) λ_=>M.pure (c,.a)|.g e=>lN c (a.ev c e) λ_=>M.pure (c,.a)|.k s q r=>lN c (a.b c s) λt=>bif t then lH a q c else lH a r c|.a s r=>M.bind (qW (a.b c s)) λt=>bif t then M.bind (lH a r c) λu=>match u.2 with|.d f=>M.pure (u.1,.d f)|.c _=>M.b|_=>a.ex u.1 (.a s r)else M.pure (c,.a)|.h v w x r=>lN c (lS a c ak w x) λn=>mT a v r n c|.d e=>lN c (a.ev c e) λf=>M.pure (c,.d f)|.o0=>M.pure (c,.d .g)|.e=>M.pure (c,.e)|.b y z=>lN c (mw a c z) λn=>match tl y (b.a y) n with|some d=>M.pure (c,.c d)|D=>M.b
 |.l r A=>M.bind (lH a r c) λu=>match u.2 with
  |.c e=>match oN b e A with|some B=>λC=>qX u.1 B ⟨C.σ,C.mu+3⟩|D=>M.b
  |_=>M.pure u
 |.s r y=>M.bind (lH a r c) λu=>match u.2 with|.c e=>if e.c==y&&(b.a y).isSome&&e.a !=0 thenλC=>.ok ([],.d (.e [.a e.a])) ⟨C.σ,C.mu+3⟩else M.b|_=>M.pure u
 |.lX=>M.b
noncomputable def oA(a:Nat)(b c:List V):List V:=b++c.drop (c.length-(a-b.length))
noncomputable def o5(a:R (Ro×Fl)):R V:=match a with|.ok c d=>(match c.2 with|.d e=>.ok e d|.a=>.ok .g d|.c f=>.c f ⟨d.σ,d.mu+1⟩|.e=>.b)|.c f d=>.c f d|.b=>.b
noncomputable def um(c:Nat)(d:List V):M V:=match b.fn c with|some e=>bif d.length.ble e.a.length&&(oA e.a.length d e.b).length.beq e.a.length thenλf=>o5 (lH a e.c ((e.a.zip (oA e.a.length d e.b)).map λg=>(g.1,.a g.2)) f)else M.b|D=>M.b
end
noncomputable def I1(a:PT)(b:nq):nq:=⟨l_ a b,tj b,lV a b,um a b⟩
noncomputable def I2:nq:=⟨λ_ _=>M.b,λ_ _=>M.b,λ_ _=>M.b,λ_ _=>M.b⟩
noncomputable def kX(a:PT):Nat->nq|0=>I2|b+1=>I1 a (kX a b)
theorem M.lO{e f:Type}{g:M e}{h:e->M f}{a:e}(b:g S=.ok a S'):M.bind g h S=h a S':=by unfold M.bind;exact b▸rfl
theorem M.uF{a e:Type}{f:M a}{g:a->M e}(b:f h=.c i j):M.bind f g h=.c i j:=by unfold M.bind;exact b▸rfl
theorem M.d{a e:Type}{f:M a}{g:a->M e}(b:M.bind f g h≠.b):f h≠.b:=λc=>b (by unfold M.bind;exact c▸rfl)
end
theorem zL{a}{b}(c:Runs a d e f g h b i):h.heap.objs.size<=i.heap.objs.size:=by induction c<;>(try simp only[Shared.setGen,aV,cL]at*)<;>lia
theorem I3{a}(b:Returns a c d e f g):e.heap.objs.size<=g.heap.objs.size:=zL b
theorem zM{a:Prop}{b c:am}(d:a/\c=b):b.heap.objs.size<=c.heap.objs.size:=d.2.symm▸al _
theorem I4{a}{b}(c:Wakes a d e f g h b i):h.heap.objs.size<=i.heap.objs.size:=by
 delta Wakes at c;generalize h.gens[f]?=j at c;induction j with|none=>exact c.elim|some k=>induction k with
  |fresh l=>induction g with
   |send m=>induction m with|none=>obtain⟨n,o,p,_,_,rfl⟩:=c;exact(zL p:(h.setGen f .running).heap.objs.size<=o.heap.objs.size)|_=>exact zM c
   |throw=>exact c.2.symm▸al _
  |suspended=>obtain⟨n,o,p,_,_,rfl⟩:=c;exact(zL p:(h.setGen f .running).heap.objs.size<=o.heap.objs.size)|running=>exact zM c|finished=>exact zM c
open Sem in
theorem I5{a:Type}(b)(c)(d)(e:gF a):∀(f:a->im->am->Prop)(g:ap->im->am->Prop)(h:im)(i:am),d<=i.heap.objs.size->Sem.wp b c e f g h i->Sem.wp b c e (λj k l=>d<=l.heap.objs.size/\f j k l) (λm k l=>d<=l.heap.objs.size/\g m k l) h i:=by induction e with|pure j=>intro f g h i n o;exact⟨n,o⟩|raise m=>intro f g h i n o;exact⟨n,o⟩|unsupported _=>intro f g h i _ o;exact o|finish _=>intro f g h i _ o;exact o|rule _ p q=>intro f g h i n o;exact q () f g h i n o|«at»k p q=>intro f g h i n o;exact q () f g k i n o|load j _ p q=>intro f g h i n o;obtain⟨r,s,o⟩:=o;exact lQ r s (q r f g h i n o)|update j _ t p q=>intro f g h i n o;exact⟨o.1,q () f g h _ (by rw[cL];exact n) o.2⟩|loadIfAlive j p q=>intro f g h i n o;exact q _ f g h i n o|point _ p q=>intro f g h i n o;exact q () f g h i n o|register _ _=>intro f g h i _ o;exact o|alloc r p q=>intro f g h i n o;exact q _ f g h _ (by rw[aV];exact bo n) o|fresh p q=>intro f g h i n o;exact q _ f g h _ n o|ask p q=>intro f g h i n o;exact q _ f g h i n o|choose u v p q=>intro f g h i n o;exact⟨o.1,q _ f g h _ n o.2⟩|os w _ p q=>intro f g h i n o;exact q _ f g h _ n o|call x y _ _ p q=>intro f g h i n o;obtain⟨z,l,A,o⟩:=o;exact r_ z l A (q z f g h l (ao n (I3 A)) o)|handled B p q=>intro f g h i n o;exact q _ f g h i n o|genState C p q=>intro f g h i n o;obtain⟨E,F,o⟩:=o;exact lQ E F (q _ f g h i n o)|newGen x p q=>intro f g h i n o;exact q _ f g h _ n o|resume C z _ p q=>intro f g h i n o;obtain⟨G,l,H,o⟩:=o;exact r_ G l H (q G f g h l (ao n (I4 H)) o)|yield _ _ _ _=>intro f g h i _ o;exact o|stack p q=>intro f g h i n o;exact q _ f g h i n o|fork _ _=>intro f g h i _ o;exact o|thread p q=>intro f g h i n o;exact q _ f g h i n o|await _ _ _ _ _=>intro f g h i _ o;exact o
theorem rI{a:Type}{b}{c:gF a}{d:a->am->Prop}(e:az b f c (λg h=>i.heap.objs.size<=h.heap.objs.size->d g h) (λj h=>i.heap.objs.size<=h.heap.objs.size->k j h) i):az b f c d k i:=λl m n=>Sem.wp_mono _ _ _ (λg o h e=>e.2 e.1) (λj o h e=>e.2 e.1) m i (I5 b l i.heap.objs.size c _ _ m i (al _) (e l m n))
section
noncomputable abbrev li(a:dk):Nat:=a.objs.size
theorem pW(a):li a<=a.objs.size:=al _
theorem nJ(a:b.get? c=Z d):c<li b:=bK a
section
variable{e:Prop}{a:dk}{b:aS}{c d:jb}{f:Data}{h:Array c7}{i j:Nat}{g k:Array ap}{l:Option ap}
theorem uo(a:f=.dict h i)(b:f=.fields g):e:=dg (a.symm.trans b)
theorem wY(a:f=.seq k j)(b:f=.fields g):e:=dg (a.symm.trans b)
theorem Ct(a:f=.cell l)(b:f=.fields g):e:=dg (a.symm.trans b)
theorem wZ(e:a.get? b=Z c)(f:a.get? b=Z d):c=d:=aa (e.symm.trans f)
theorem zN(f:a.get? b=Z c)(j:c.data=.dict h i)(k:a.get? b=Z d)(l:d.data=.fields g):e:=uo ((wZ f k)▸j) l
theorem tm(f:a.get? b=Z c)(g:c.data=.dict h i)(l:a.get? b=Z d)(m:d.data=.seq k j):e:=dg (((wZ f l)▸g).symm.trans m)
theorem w0(f:a.get? b=Z c)(g:c.data=.cell l)(h:a.get? b=Z d)(i:d.data=.seq k j):e:=dg (((wZ f h)▸g).symm.trans i)
end
noncomputable abbrev Fz:=aS->Option jb
structure Wd where
 φ:Fz
 as:List aS
mutual
inductive VI(W:Wd):ap->V->Prop|g:VI W .none .g|h(b:Bool):VI W (.bool b) (.h b)|a(i:Int)(t:Tok):VI W (.int i t) (.a i)|d(s:List Nat)(t:Tok):VI W (.str ⟨s.toArray⟩ t) (.d s)|f(b:Array UInt8)(t:Tok):VI W (.bytes b t) (.f (b.toList.map cG))|e{a:aS}{o:jb}{vs:List ap}{n:Nat}{ds:List V}:W.φ a=Z o->o.cls=.type "tuple"->o.data=.seq vs.toArray n->lx W vs ds->VI W (.ref a) (.e ds)|c{a:aS}{o:jb}{vs:List ap}{n:Nat}{ds:List V}:W.φ a=Z o->o.cls=.type "list"->o.data=.seq vs.toArray n->lx W vs ds->VI W (.ref a) (.c ds)|b{i:Nat}{a:aS}:W.as[i]?=Z a->VI W (.ref a) (.b i)|i(a:aS):VI W (.ref a) (.i a)inductive lx(W:Wd):List ap->List V->Prop|c:lx W [] []|b{v:ap}{d:V}{vs:List ap}{ds:List V}:VI W v d->lx W vs ds->lx W (v::vs) (d::ds)end
noncomputable def Wd.le(a b:Wd):Prop:=(∀c d,a.φ c=Z d->b.φ c=Z d)/\a.as<+:b.as
theorem Wd.a(d:Wd):d.le d:=⟨λ_ _ a=>a,bD _⟩
theorem Cu{a:Type}{b c:List a}(d:b<+:c){e:Nat}{f:a}(g:b[e]?=Z f):c[e]?=Z f:=by obtain⟨h,rfl⟩:=d;refine ah (fF ((List.getElem?_eq_some_iff.mp g).1:e<b.length)) ?_;exact g
theorem VI.k{W W':Wd}(a:W.le W'){w}{x}(b:VI W w x):VI W' w x:=VI.rec (motive_1:=λw x _=>VI W' w x) (motive_2:=λc d _=>lx W' c d) .g .h .a .d .f (λe f x _ g=>.e (a.1 _ _ e) f x g) (λe f x _ g=>.c (a.1 _ _ e) f x g) (λe=>.b (Cu a.2 e)) .i .c (λ_ _ h i=>.b h i) b
theorem lx.e{i:(j:List ap)->(o:List V)->lx p j o->Prop}(c:i [] [] .c)(b:∀{q r j o}(s:VI p q r)(t:lx p j o),i j o t->i (q::j) (r::o) (.b s t))(u:lx p j o):i j o u:=lx.rec (motive_1:=λ_ _ _=>True) (motive_2:=i) trivial (λ_=>trivial) (λ_ _=>trivial) (λ_ _=>trivial) (λ_ _=>trivial) (λ_ _ _ _ _=>trivial) (λ_ _ _ _ _=>trivial) (λ_=>trivial) (λ_=>trivial) c (λs a _ d=>b s a d) u
theorem lx.k(a:W.le W')(b:lx W i j):lx W' i j:=by induction b using lx.e with|c=>exact .c|b c _ d=>exact .b (c.k a) d
theorem Cv{a:Type}:∀{b:List a},b.Nodup->∀{c d:Nat}{e:a},b[c]?=Z e->b[d]?=Z e->c=d:=by
 intro f;induction f with|nil=>
  intro _ c d e g _;simp at g|cons h b i=>
  intro j k;cases k with
  |zero=>intro l;induction l with|zero=>intro e g m;exact rfl|succ d=>intro e g m;simp at g m;subst g;exact absurd (aH m) (List.nodup_cons.mp j).1
  |succ c=>intro n;cases n with|zero=>intro e g m;simp at g m;subst m;exact absurd (aH g) (List.nodup_cons.mp j).1|succ d=>intro e g m;simp at g m;exact(i (List.nodup_cons.mp j).2 g m)▸rfl
theorem lx.a(a:lx i j o):j.length=o.length:=by induction a using lx.e with|c=>rfl|b _ _ b=>refine ah bE ?_;refine ah ?_ List.length_cons.symm;exact congrArg _ b
theorem lx.d(a:lx i j o):∀{p:Nat}{q:V},o[p]?=Z q->∃r,j[p]?=Z r/\VI i r q:=by induction a using lx.e with|c=>exactλb=>nn b|b c _ d=>intro p q b;induction p with|zero=>exact lQ _ rfl (aa b▸c)|succ p=>exact d b
theorem lx.f(a:lx i j o)(b:lx i p q):lx i (j++p) (o++q):=by induction a using lx.e with|c=>exact b|b c _ d=>exact .b c d
inductive mA(W:Wd):List (Int×ap)->List (Int×V)->Prop|c:mA W [] []|b{k:Int}{v:ap}{d:V}{es:List (Int×ap)}{ds:List (Int×V)}:VI W v d->mA W es ds->mA W ((k,v)::es) ((k,d)::ds)
inductive n9(nm:Nat->aX)(W:Wd):List c7->List (Nat×V)->Prop|c:n9 nm W [] []|b{e:c7}{es:List c7}{x:Nat}{d:V}{ds:List (Nat×V)}:(∃t,e.key=.str (nm x) t)->VI W e.val d->n9 nm W es ds->n9 nm W (e::es) ((x,d)::ds)
theorem mA.k(a:W.le W')(b:mA W l m):mA W' l m:=by induction b with|c=>exact .c|b c _ d=>exact .b (c.k a) d
theorem n9.k(a:W.le W')(b:n9 d W e f):n9 d W' e f:=by induction b with|c=>exact .c|b c g _ h=>exact .b c (g.k a) h
structure Gd where
 a:eT
 w:iF
 B:dk
 nm:Nat->aX
 inj:∀i j,nm i=nm j->i=j
 K:ew
 X:K.In B
 mg:aX->Option ap
 mb:aX->Option ap
 hg:B.Ns b7 mg
 hb:B.Ns eM mb
 b:B.NoLimit
 boot:∀x:aX,x≠"__name__"->mb x=fK x
noncomputable def MR(a:Gd)(b:Wd)(c:dk)(d:aS):MO->Prop|.c e=>∃f:List ap,c.PlainList d f.toArray/\lx b f e|.m e=>∃g,c.DictOf (eU a.a a.w) d g/\mA b g e|.a h i=>∃j,b.as[i]?=Z j/\c.get? d=Z (dA h j)|.b e=>∃k l,c.get? d=Z (dG k l)/\n9 a.nm b k e
theorem MR.k{a:Gd}{W W'}(b:W.le W'){c d}(e:∀f,c.get? g=Z f->d.get? g=Z f)(h:MR a W c g i):MR a W' d g i:=by induction i with|c=>exact h.imp λ_ h=>⟨h.1.at e,h.2.k b⟩|m=>exact h.imp λ_ h=>⟨h.1.at e,h.2.k b⟩|a=>exact h.imp λ_ h=>⟨Cu b.2 h.1,e _ h.2⟩|b=>exact h.imp λ_ h=>h.imp λ_ h=>⟨e _ h.1,h.2.k b⟩
theorem MR.there(a:MR b c d e f):∃g,d.get? e=Z g:=by induction f with|c=>exact a.elim λ_ a=>a.1.elim λ_ a=>⟨_,a⟩|m=>exact a.elim λ_ a=>a.1.imp λ_ a=>a.elim λ_ a=>a.elim λ_ a=>a.1|a=>exact a.elim λ_ a=>⟨_,a.2⟩|b=>exact a.elim λ_ a=>a.elim λ_ a=>⟨_,a.1⟩
structure HS(G:Gd)(W:Wd)(S:MS)(s:am):Prop where
 l:∀a o,G.B.get? a=Z o->W.φ a=Z o
 j:∀a o,W.φ a=Z o->s.heap.get? a=Z o
 b:W.as.length=S.σ.length
 u:W.as.Nodup
 e:∀a∈W.as,W.φ a=D
 q:∀a∈W.as,1<a
 k:∀(i:Nat)mo a,S.σ[i]?=Z mo->W.as[i]?=Z a->MR G W s.heap a mo
theorem HS.v(a:HS d n o s):∀C E,d.B.get? C=Z E->s.heap.get? C=Z E:=λC E b=>a.j C E (a.l C E b)
theorem HS.lt(a:HS d n o s)(b:C∈n.as):C<li s.heap:=by obtain⟨c,e,f⟩:=kD b;obtain⟨g,h⟩:=(a.k c _ C (aI (by refine a.b▸?_;exact e:c<o.σ.length)) (by refine ah (aI e) ?_;exact congrArg _ f)).there;exact nJ h
theorem HS.g(a:HS d n o s)(tk):HS d n o {s with toks:=tk}:=⟨a.l,a.j,a.b,a.u,a.e,a.q,a.k⟩
theorem HS.w(a:HS d n o s)(C):HS d n ⟨o.σ,C⟩ s:=⟨a.l,a.j,a.b,a.u,a.e,a.q,a.k⟩
structure Gr(FA:List aS)(n:Nat)(W:Wd)(S:MS)(s:am)(W':Wd)(S':MS)(s':am):Prop where
 b:∀a o,W.φ a=Z o->W'.φ a=Z o
 u:∀a o,W'.φ a=Z o->W.φ a=Z o\/n<=a
 x:W.as<+:W'.as
 v:∀a∈W'.as,a∈W.as\/n<=a
 l:∀a o,a∉W.as->a∉FA->a<n->s.heap.get? a=Z o->s'.heap.get? a=Z o
 q:∀a∈FA,∀o,s.heap.get? a=Z o->∃sl,s'.heap.get? a=Z {o with slots:=sl}z:S'.mu=S.mu->∀a o,a<n->s.heap.get? a=Z o->s'.heap.get? a=Z o
 mu:S.mu<=S'.mu
 i:li s.heap<=li s'.heap
 y:∃h' tk,s'={s with heap:=h',toks:=tk}
theorem Gr.le(a:Gr d n o s F G H J):o.le G:=⟨a.b,a.x⟩
theorem Gr.c(d)(n)(o):Gr s F d n o d n o:=⟨λ_ _ a=>a,λ_ _ a=>.inl a,bD _,λ_ b=>.inl b,λ_ _ _ _ _ a=>a,λ_ _ c a=>⟨c.slots,a⟩,λ_ _ _ _ a=>a,al _,al _,⟨o.heap,o.toks,rfl⟩⟩
theorem Gr.g(d)(n)(o)(tk):Gr s F d n o d n {o with toks:=tk}:=⟨λ_ _ a=>a,λ_ _ a=>.inl a,bD _,λ_ b=>.inl b,λ_ _ _ _ _ a=>a,λ_ _ c a=>⟨c.slots,a⟩,λ_ _ _ _ a=>a,al _,al _,⟨o.heap,tk,rfl⟩⟩
theorem Gr.j(a:Gr d n o s F G H J)(b:Gr d L G H J N O P)(c:n<=L):Gr d n o s F N O P where
 b:=λe f g=>b.b e f (a.b e f g);u:=λe f g=>by
  refine aB (b.u e f g) (λh=>?_) (λh=>?_);·exact a.u e f h
  ·exact .inr (ao c h)
 x:=a.x.trans b.x;v:=λe h=>by
  refine aB (b.v e h) (λh=>?_) (λh=>?_);·exact a.v e h
  ·exact .inr (ao c h)
 l:=λe f i j k g=>by
  refine b.l e f (λh=>?_) j (aF k c) (a.l e f i j k g);refine aB (a.v e h) (λh=>?_) (λh=>?_);·exact i h
  ·exact aZ _ (aF k h)
 q:=λe h f g=>by refine lp (a.q e h f g) λl m=>?_;refine lp (b.q e h _ m) λp q=>?_;exact mf p q
 z:=λr e f h g=>by have i:=a.mu;have j:=b.mu;exact b.z ((Y [] [O.mu,s.mu,H.mu] ⟨[2,3,1],[],[.E .a .b,.L .b .c,.L .c .a],.E .a .c⟩) r i j) e f (aF h c) (a.z ((Y [] [O.mu,s.mu,H.mu] ⟨[1,3],[],[.E .a .b,.L .b .c,.L .c .a],.E .c .b⟩) r i j) e f h g)
 mu:=ao a.mu b.mu;i:=ao a.i b.i;y:=by refine gz λt u=>?_;refine mY a.y λi v w=>?_;subst w;refine u ?_;refine mY b.y λj x w=>?_;refine w▸?_;exact tZ j x rfl
theorem Gr.r(a:Gr d n o s F G H J)(b:n'<=n)(c:∀L∈N,L∈d)(e:∀L∈d,L∈N\/n'<=L):Gr N n' o s F G H J where
 b:=a.b;u:=λL f g=>(a.u L f g).imp id (ao b);x:=a.x;v:=λL h=>(a.v L h).imp id (ao b);l:=λL f i j k g=>by
  refine a.l L f i (λh=>?_) (aF k b) g;refine aB (e L h) (λh=>?_) (λh=>?_);·exact j h
  ·exact aZ _ (aF k h)
 q:=λL h=>a.q L (c L h);z:=λl L f h g=>a.z l L f (aF h b) g;mu:=a.mu;i:=a.i;y:=a.y
noncomputable def Wd.b(a:Wd)(b:aS)(c:jb):Wd:=⟨λd=>if d=b then Z c else a.φ d,a.as⟩
noncomputable def Wd.p(W:Wd)(a:aS):Wd:=⟨W.φ,W.as++[a]⟩
section
variable{a:Gd}{W:Wd}{S:MS}{s:am}{FA:List aS}
theorem HS.i(b:HS a W S s)(c:li s.heap<=d):W.φ d=D:=by cases e:W.φ d with|none=>rfl|some f=>exact absurd (nJ (b.j _ _ e)) (Nat.not_lt.mpr c)
theorem HS.r(b:HS a W S s)(c:li s.heap<=d):d∉W.as:=λe=>absurd (b.lt e) (Nat.not_lt.mpr c)
theorem HS.y(b:HS a W S s)(c:li s.heap<=d):W.le (W.b d n):=⟨λe f g=>by
 by_cases h:e=d;·induction h;rw[b.i c]at g;exact nn g
 ·refine ah (if_neg h) ?_;exact g,bD _⟩
theorem HS.z(b:HS a W S s):W.φ (li s.heap)=D:=by cases c:W.φ (li s.heap)with|none=>rfl|some d=>exact absurd (nJ (b.j _ _ c)) (aZ _)
theorem HS.B(b:HS a W S s):li s.heap∉W.as:=λc=>aZ _ (b.lt c)
theorem HS.c(b:HS a W S s):1<li s.heap:=by have c:b7<li s.heap:=(a.hg.keeps b.v).lt;replace c:=((rfl:b7=3))▸c;exact gk (by decide) c
theorem HS.h(b:HS a W S s)(c:∀d n,s.heap.get? d=Z n->o.get? d=Z n):HS a W S {s with heap:=o,toks:=tk}where l:=b.l;j:=λd n e=>c d n (b.j d n e);b:=b.b;u:=b.u;e:=b.e;q:=b.q;k:=λf g d h i=>(b.k f g d h i).k (W.a) (c d)
theorem Gr.h(a:∀d o,s.heap.get? d=Z o->F.get? d=Z o)(b:li s.heap<=li F):Gr FA n W S s W S {s with heap:=F,toks:=tk}:=⟨λ_ _ c=>c,λ_ _ c=>.inl c,bD _,λ_ e=>.inl e,λd o _ _ _ c=>a d o c,λd _ o c=>⟨o.slots,a d o c⟩,λ_ d o _ c=>a d o c,al _,b,⟨F,tk,rfl⟩⟩
theorem HS.m(b:HS a W S s)(c:s.heap.get? d=Z o)(e:d∉W.as)(f:W.φ d=D):HS a (W.b d o) S s where
 l:=λg h i=>by
  have j:=b.l g h i;by_cases k:g=d;·subst k;exact nn (f.symm.trans j)
  ·refine ah (if_neg k) ?_;exact j
 j:=λg h i=>by
  have j:(if g=d then Z o else W.φ g)=Z h:=i;by_cases k:g=d;·subst k;rw[if_pos rfl]at j;refine(aa j)▸?_;exact c
  ·rw[if_neg k]at j;exact b.j g h j
 b:=b.b;u:=b.u;e:=λg k=>by
  have l:g∈W.as:=k;by_cases i:g=d;·subst i;exact absurd l e
  ·refine ah (if_neg i) ?_;exact b.e g l
 q:=b.q;k:=λm n g p q=>MR.k (W:=W) (W':=W.b d o) ⟨λr h i=>by
  by_cases k:r=d;·induction k;exact nn (f▸i)
  ·refine ah (if_neg k) ?_;exact i,bD _⟩ (λ_ i=>i) (b.k m n g p q)
theorem Gr.m(a:W.φ d=D)(b:n<=d):Gr FA n W S s (W.b d o) S s where
 b:=λc e f=>by
  show(if c=d then Z o else W.φ c)=Z e;by_cases g:c=d;·subst g;exact nn (a.symm.trans f)
  ·refine ah (if_neg g) ?_;exact f
 u:=λc e f=>by
  have h:(if c=d then Z o else W.φ c)=Z e:=f;by_cases g:c=d;·induction g;exact .inr b
  ·rw[if_neg g]at h;exact .inl h
 x:=bD _;v:=λ_ g=>.inl g;l:=λ_ _ _ _ _ f=>f;q:=λ_ _ o f=>⟨o.slots,f⟩;z:=λ_ _ _ _ f=>f;mu:=al _;i:=al _;y:=⟨s.heap,s.toks,rfl⟩
theorem Wd.c(W:Wd)(d)(e):(W.b d e).φ d=Z e:=if_pos rfl
theorem HS.p(b:HS a W S s)(c:MR a (W.p d) s.heap d mo)(e:d∉W.as)(f:W.φ d=D)(g:1<d):HS a (W.p d) ⟨S.σ++[mo],S.mu⟩ s where
 l:=b.l;j:=b.j;b:=by refine(ah aW ?_:(W.as++[d]).length=(S.σ++[mo]).length);refine ah ?_ List.length_append.symm;refine b.b▸?_;rfl
 u:=by show(W.as++[d]).Nodup;rw[List.nodup_append];exact oz b.u (by simp) (λh i j k=>by simp at k;refine k▸?_;exactλl=>e (l▸i))
 e:=λm n=>by
  refine aB (List.mem_append.mp n) (λn=>?_) (λn=>?_);·exact b.e m n
  ·simp at n;subst n;exact f
 q:=λm n=>by
  refine aB (List.mem_append.mp n) (λn=>?_) (λn=>?_);·exact b.q m n
  ·simp at n;refine n▸?_;exact g
 k:=λo p m q r=>by
  have t:(S.σ++[mo])[o]?=Z p:=q;have u:(W.as++[d])[o]?=Z m:=r;by_cases v:o<S.σ.length;·rw[fF v]at t;rw[fF (by refine b.b▸?_;exact v)]at u;exact MR.k (W:=W) (W':=W.p d) ⟨λ_ _ l=>l,kP _ _⟩ (λ_ l=>l) (b.k o p m t u)
  ·have w:o=S.σ.length:=by have:=(List.getElem?_eq_some_iff.mp t).1;rw[aW]at this;exact(Y [] [o,S.σ.length] ⟨[2],[],[.N (.T .a .b),.T .a (.p .b .u)],.E .a .b⟩) v this
   subst w;rw[cO (al _),gn]at t;rw[cO (by refine b.b▸?_;exact al _),b.b,gn]at u;simp at t u;subst t;subst u;exact c
theorem Gr.p(a:d<=n):Gr FA d W S s (W.p n) ⟨S.σ++[mo],S.mu⟩ s where
 b:=λ_ _ b=>b;u:=λ_ _ b=>.inl b;x:=kP _ _;v:=λc e=>by
  refine aB (List.mem_append.mp e) (λe=>?_) (λe=>?_);·exact .inl e
  ·simp at e;refine e▸?_;exact .inr a
 l:=λ_ _ _ _ _ b=>b;q:=λ_ _ f b=>⟨f.slots,b⟩;z:=λ_ _ _ _ b=>b;mu:=al _;i:=al _;y:=⟨s.heap,s.toks,rfl⟩
theorem HS.t(b:HS a W S s)(c:S.σ[d]?=Z n)(e:W.as[d]?=Z o)(f:bA o s.heap C)(g:MR a W C o E):HS a W ⟨S.σ.set d E,F⟩ {s with heap:=C,toks:=tk}where
 l:=b.l;j:=λh i j=>(f.2 h λk=>by have:=b.e o (aH e);exact nn (this▸k▸j)).trans (b.j h i j);b:=by refine ah ?_ List.length_set.symm;exact b.b
 u:=b.u;e:=b.e;q:=b.q;k:=λl m h p q=>by
  have r:(S.σ.set d E)[l]?=Z m:=p;by_cases t:d=l;·induction t;rw[List.getElem?_set_self (List.getElem?_eq_some_iff.mp c).1]at r;refine(aa r)▸?_;rw[e]at q;refine(aa q)▸?_;exact g
  ·rw[List.getElem?_set_ne t]at r;have u:h≠o:=λk=>by induction k;exact t (Cv b.u e q)
   exact(b.k l m h r q).k (W.a) λi k=>(f.2 h u).trans k
theorem Gr.t(b:HS a W S s)(c:W.as[d]?=Z n)(e:n∉FA)(f:bA n s.heap o)(g:MR a W o n F):Gr FA G W S s W ⟨S.σ.set d F,S.mu+1⟩ {s with heap:=o,toks:=tk}where
 b:=λ_ _ h=>h;u:=λ_ _ h=>.inl h;x:=bD _;v:=λ_ i=>.inl i;l:=λj k l _ _ h=>(f.2 j λm=>l (m▸aH c)).trans h;q:=λj p k h=>⟨k.slots,(f.2 j λm=>e (m▸p)).trans h⟩;z:=λq=>absurd (q:S.mu+1=S.mu) (iL _);mu:=aL _;i:=by show li s.heap<=li o;unfold li;exact f.1▸(al _)
 y:=⟨o,tk,rfl⟩
end
end
section
noncomputable def lB(a:List bL):List aS:=a.filterMap (·.frame)
noncomputable def mU(a:List bL)(b:Wd)(c:am):Prop:=∀d∈a,d.scope.kind≠.module/\∃e f,d.frame=Z e/\c.heap.get? e=Z f/\(∃g h,f.data=.dict g h)/\b.φ e=D/\e∉b.as
theorem mU.at(b:mU c e g)(d:a∈lB c):∃h,g.heap.get? a=Z h/\(∃i j,h.data=.dict i j)/\e.φ a=D/\a∉e.as:=by refine ll (List.mem_filterMap.mp d) λf k l=>?_;refine lA (b f k) λ_ m=>wz m λn h o p q r s=>?_;rw[o]at l;refine(aa l)▸?_;exact tY h p q r s
theorem mU.lt(a:mU c e g)(b:h∈lB c):h<li g.heap:=by refine ll (a.at b) λd f _=>?_;exact nJ f
theorem mU.d(a:mU c e g)(b:Gr (lB l') h e S g i S' j)(d:∀l∈lB c,l<h):mU c i j:=λf k=>by
 refine lA (a f k) λm n=>wz n λo p q r s t u=>?_;have v:=d o (List.mem_filterMap.mpr ⟨f,k,q⟩:o∈lB c);refine⟨m,o,?_⟩;have w:i.φ o=D:=by
  cases x:i.φ o with|none=>rfl|some y=>
   refine aB (b.u o y x) (λz=>?_) (λz=>?_);·exact nn (t.symm.trans z)
   ·exact absurd v (Nat.not_lt.mpr z)
 have A:o∉i.as:=λx=>by
  refine aB (b.v o x) (λz=>?_) (λz=>?_);·exact u z
  ·exact absurd v (Nat.not_lt.mpr z)
 by_cases B:o∈lB l';·refine lp (b.q o B p r) λC E=>?_;exact BW _ q E s w A
 ·exact BW p q (b.l o p u B v r) s w A
noncomputable def Hd(a:Nat)(b:Wd)(c:dk)(d:aS)(e:Array ap):Prop:=e[1]?=Z .none\/∃f g h,e[1]?=Z (.ref f)/\f≠d/\a<=f/\c.get? f=Z g/\g.data=.fields h/\h[3]?=Z .none/\b.φ f=D/\f∉b.as
inductive XR(G:Gd)(n:Nat)(W:Wd)(x:XC)(v:ap)(s:am):Prop|mk(e:aS)(oe:jb)(vs:Array ap)(h1:v=.ref e)(h2:n<=e)(h3:s.heap.get? e=Z oe)(h4:oe.cls=.ref x.c)(h5:oe.data=.fields vs)(h6:Hd n W s.heap e vs)(h7:W.φ e=D)(h8:e∉W.as)(h9:x.a≠0->∃dx es k t,oe.dict=Z dx/\W.φ dx=Z (dG es k)/\gJ "cause" es=Z (Z (.int x.a t)))
theorem Hd.r(a:Hd b c d e f)(g:n'<=b):Hd n' c d e f:=by
 refine aB a (λa=>?_) (λh=>tX h λi j k l m n o=>?_);·exact .inl a
 ·exact .inr ⟨i,j,k,l,m,ao g n,o⟩
theorem XR.r(a:XR c d e f g h)(b:n'<=d):XR c n' e f g h:=by obtain⟨i,j,k,l,m,n,o,p,q,r,s,t⟩:=a;exact⟨i,j,k,l,ao b m,n,o,p,q.r b,r,s,t⟩
section
variable{q o u t:Type}
inductive PO(i:Gd)(k:List bL)(Rel:Wd->q->o->Prop)(f:Wd)(S:MS)(s:am)(r:R o)(v:q)(s':am):Prop|mk(d:o)(S':MS)(W':Wd)(e:r=.ok d S')(g:Gr (lB k) (li s.heap) f S s W' S' s')(H:HS i W' S' s')(r:Rel W' v d)
inductive PE(i:Gd)(k:List bL)(f:Wd)(S:MS)(s:am)(r:R o)(v:ap)(s':am):Prop|mk(x:XC)(S':MS)(W':Wd)(e:r=.c x S')(g:Gr (lB k) (li s.heap) f S s W' ⟨S'.σ,S'.mu+1⟩ s')(H:HS i W' S' s')(x:XR i (li s.heap) W' x v s')
noncomputable def kY(i:Gd)(k:List bL)(n:aN)(p:gF q)(m:M o)(Rel:Wd->q->o->Prop)(f:Wd)(S:MS)(s:am):Prop:=m S≠.b->az (aC i.a i.w) n p (PO i k Rel f S s (m S)) (PE i k f S s (m S)) s
variable{i:Gd}{k:List bL}{n:aN}{p:gF q}{m:M o}{Rel:Wd->q->o->Prop}{f:Wd}{S:MS}{s:am}
theorem vy{q:Type}{a b:q}(c:R.ok a S=R.ok b d):a=b/\S=d:=by cases c;exact n0 rfl rfl
theorem PE.re{a:R o}{c:R t}(b:PE i k f S s a d e)(g:∀h j,a=.c h j->c=.c h j):PE i k f S s c d e:=by obtain⟨h,j,l,m,n,p,q⟩:=b;exact⟨h,j,l,g h j m,n,p,q⟩
theorem PO.b{d:R o}{j:q}(a:Gr (lB k) (li s.heap) f S s l r v)(b:PO i k Rel l r v d j w):PO i k Rel f S s d j w:=by obtain⟨c,e,g,h,m,n,p⟩:=b;exact⟨c,e,g,h,a.j m a.i,n,p⟩
theorem PE.b{a:R o}(b:Gr (lB k) (li s.heap) f S s c d e)(g:PE i k c d e a h j):PE i k f S s a h j:=by obtain⟨l,m,n,p,q,r,t⟩:=g;exact⟨l,m,n,p,b.j q b.i,r,t.r b.i⟩
theorem kY.go(a:kY i k n p m Rel f S s)(b:m S≠.b){c:q->am->Prop}(d:∀g v w x y,m S=.ok v w->Gr (lB k) (li s.heap) f S s x w y->HS i x w y->Rel x g v->c g y)(e:∀g y,PE i k f S s (m S) g y->z g y):az (aC i.a i.w) n p c z s:=by refine aK (a b) (λg y h=>?_) e;obtain⟨v,w,x,j,l,o,r⟩:=h;exact d g v w x y j l o r
theorem kY.l(a:kY i k n p m Rel f S s){g:o}(b:m S=.ok g v){c:q->am->Prop}(d:∀w x y,Gr (lB k) (li s.heap) f S s x v y->HS i x v y->Rel x w g->c w y):az (aC i.a i.w) n p c z s:=a.go (λe=>nomatch b.symm.trans e) (λw h j x y l r t u=>by cases b.symm.trans l;exact d w x y r t u) λw y e=>by obtain⟨A,v,x,l,_⟩:=e;exact nomatch b.symm.trans l
theorem kY.h{g:o->M t}(a:kY i k n p m Rel f S s)(b:M.bind m g S≠.b){c:q->am->Prop}(d:∀v w x y z,M.bind m g S=g w x->g w x≠.b->Gr (lB k) (li s.heap) f S s y x z->HS i y x z->Rel y v w->c v z)(e:∀v z,PE i k f S s (M.bind m g S) v z->A v z):az (aC i.a i.w) n p c A s:=a.go (M.d b) (λv w x y z h j l r=>d v w x y z (M.lO h) (λu=>b ((M.lO h).trans u)) j l r) λv z u=>e v z (u.re λ_ _=>M.uF)
theorem kY.bind{v:q->gF u}{g:o->M t}{w:Wd->u->t->Prop}(a:kY i k n p m Rel f S s)(b:∀x y z A B,Gr (lB k) (li s.heap) f S s z A B->HS i z A B->Rel z x y->kY i k n (v x) (g y) w z A B):kY i k n (p>>=v) (M.bind m g) w f S s:=λc=>af (a.h c (λx y A z B d e h j l=>by refine d▸?_;exact aK (b x y z A B h j l e) (λ_ _ r=>r.b h) λ_ _ r=>r.b h) λ_ _ r=>r)
theorem PO.g{d:q}{j:o}(a:HS i f S s)(b:Rel f d j):PO i k Rel f S s (.ok j S) d {s with toks:=tk}:=⟨j,S,f,rfl,Gr.g f S s tk,a.g tk,b⟩
theorem PO.a{d:q}{j:o}(a:HS i f S s)(b:Rel f d j):PO i k Rel f S s (.ok j S) d s:=⟨j,S,f,rfl,Gr.c f S s,a,b⟩
theorem PO.h{d:q}{j:o}(a:HS i f S s)(b:∀l r,s.heap.get? l=Z r->v.get? l=Z r)(c:li s.heap<=li v)(e:Rel f d j):PO i k Rel f S s (.ok j S) d {s with heap:=v,toks:=tk}:=⟨j,S,f,rfl,Gr.h b c,a.h b,e⟩
theorem PO.made{d:q}{j:o}(a:HS i f S s)(b:∀l r,s.heap.get? l=Z r->v.get? l=Z r)(c:li s.heap<=li v)(e:v.get? l=Z r)(g:li s.heap<=l)(h:Rel (f.b l r) d j):PO i k Rel f S s (.ok j S) d {s with heap:=v,toks:=w}:=by
 have m:f.φ l=D:=by cases n:f.φ l with|none=>rfl|some p=>exact absurd (aF (nJ (a.j _ _ n)) g) (aZ _)
 exact⟨j,S,_,rfl,(Gr.h b c).j (Gr.m m g) (al _),(a.h b).m (s:={s with heap:=v,toks:=w}) e (λt=>aZ _ (aF (a.lt t) g):l∉f.as) m,h⟩
theorem PO.c{d:q}{j:o}(a:HS i f S s)(b:l.isFreed=ak)(c:f.le (f.b s.heap.objs.size l)->(f.b s.heap.objs.size l).φ s.heap.objs.size=Z l->Rel (f.b s.heap.objs.size l) d j):PO i k Rel f S s (.ok j S) d {s with heap:=s.heap.push l,toks:=r}:=PO.made a (λe l g=>av _ g) (by unfold li;rw[aV];exact aL _) (aU _ b) (pW _) (c (a.y (pW _)) (Wd.c _ _ _))
theorem kY.pure{g:q}{v:o}(a:HS i f S s)(b:Rel f g v):kY i k n (ba g) (M.pure v) Rel f S s:=λ_=>au (PO.a a b)
theorem kY.b:kY i k n p (M.b:M o) Rel f S s:=λa=>absurd rfl a
theorem kY.c{g:Option o}(a:∀v,g=Z v->kY i k n p (M.pure v) Rel f S s):kY i k n p (M.c g) Rel f S s:=by induction g with|none=>exact kY.b|some v=>exact a v rfl
theorem kY.a(a:kY i k n p m Rel f S s):kY i k n (bF g p) m Rel f S s:=λb=>aT (a b)
theorem kY.d(a:kY i k n p m Rel f S s):kY i k n (eE g>>=λ_=>p) m Rel f S s:=λb=>af (bC (a b))
theorem kY.eq{g:gF q}(a:kY i k n p m Rel f S s)(b:g=p):kY i k n g m Rel f S s:=b▸a
theorem kY.e{m':M o}(a:kY i k n p m' Rel f S s)(b:m S=m' S):kY i k n p m Rel f S s:=λc=>by rw[b]at c⊢;exact a c
theorem kY.j(a:m S≠.b->az (aC i.a i.w) n p (λg v=>li s.heap<=li v.heap->PO i k Rel f S s (m S) g v) (λw v=>li s.heap<=li v.heap->PE i k f S s (m S) w v) s):kY i k n p m Rel f S s:=λb=>rI (a b)
end
section
variable{e:Gd}{f:List bL}{a:aN}{d:M V}{b:gF ap}{g:Wd}{h:MS}{c:am}
theorem Cw{d}{e:ap->am->Prop}(f:az d a b e i c):az d a (operate j b) e i c:=λg h k=>by rw[Sem.wp_operate];exact f g h k
theorem kY.i{m:Type}{s:Wd->ap->m->Prop}{d:M m}(i:kY e f a b d s g h c):kY e f a (operate t b) d s g h c:=λj=>Cw (i j)
end
section
variable{c:Gd}{d:List bL}{e:aN}{b:Wd}{f:MS}{g:am}
inductive w7(b:Wd)(ty:String)(v:ap)(ds:List V):Prop|mk(a:aS)(o:jb)(vs:List ap)(n:Nat)(h1:v=.ref a)(h2:b.φ a=Z o)(h3:o.cls=.type ty)(h4:o.data=.seq vs.toArray n)(h5:lx b vs ds)
noncomputable def I6(b:Wd)(a:ap):V->Prop|.g=>a=.none|.h h=>a=.bool h|.a i=>∃c,a=.int i c|.d j=>∃c,a=.str ⟨j.toArray⟩ c|.f j=>∃h c,a=.bytes h c/\j=h.toList.map cG|.e k=>w7 b "tuple" a k|.c k=>w7 b "list" a k|.b i=>∃l,a=.ref l/\b.as[i]?=Z l|.i l=>a=.ref l
theorem VI.inv(a:VI b w x):I6 b w x:=by cases a with|g|h|i=>exact rfl|a _ c=>exact⟨c,rfl⟩|d _ c=>exact⟨c,rfl⟩|f d c=>exact r_ d c rfl rfl|e e d f x=>exact⟨_,_,_,_,rfl,e,d,f,x⟩|c e d f x=>exact⟨_,_,_,_,rfl,e,d,f,x⟩|b g=>exact lQ _ rfl g
theorem VI.j(a:VI b w (.a x)):∃y,w=.int x y:=a.inv
theorem VI.s(a:VI b w .g):w=.none:=a.inv
theorem VI.r(a:VI b w (.h x)):w=.bool x:=a.inv
theorem VI.m(a:VI b w (.d x)):∃y,w=.str ⟨x.toArray⟩ y:=a.inv
theorem VI.n(a:VI b w (.b x)):∃y,w=.ref y/\b.as[x]?=Z y:=a.inv
theorem VI.q(a:VI b w (.i x)):w=.ref x:=a.inv
theorem VI.l(a:VI b w (.c x)):w7 b "list" w x:=a.inv
theorem VI.o(a:VI b w (.e x)):w7 b "tuple" w x:=a.inv
theorem VI.u(a:VI b w (.f x)):∃y z,w=.bytes y z/\x=y.toList.map cG:=a.inv
end
end
section
theorem zO(a:oX b=I):b.natAbs<2^64:=by unfold oX at a;simpa using a
theorem m5:cB=2^24:=rfl
section
variable{b:Gd}{e:List bL}{f:aN}{a:Wd}{c:MS}{d:am}
theorem zP{a:aS}{g:jb}{h:List ap}(b:g.cls=.type "list")(c:g.data=.seq h.toArray i):g={cls:=.type "list",dict:=g.dict,data:=.seq h.toArray i,slots:=g.slots}:=by obtain⟨a,d,e,f⟩:=g;simp only at b c;refine b▸?_;refine c▸?_;rfl
theorem lx.m{i}(b:lx a i j):∀o:Nat,lx a (aO o i).flatten (aO o j).flatten:=by intro c;induction c with|zero=>exact .c|succ o d=>refine List.replicate_succ.symm▸?_;exact List.replicate_succ▸List.flatten_cons▸List.flatten_cons▸(b.f (d))
theorem I7(g:∀h,i=Z h->az (aC b.a b.w) f j (PO b e VI a c d (.ok h c)) (PE b e a c d (.ok h c)) d):kY b e f j (M.c i) VI a c d:=by induction i with|none=>exact kY.b|some h=>exactλ_=>g h rfl
theorem I8:(aO (1:Int).toNat g).flatten=g:=by simp
theorem pX{g:Type}{h:Prop}[Decidable h]{i:Option g}{j:g}(a:(if h then i else D)=Z j):h/\i=Z j:=by
 by_cases b:h;·rw[if_pos b]at a;exact⟨b,a⟩
 ·rw[if_neg b]at a;exact kq rfl (heq_of_eq a)
theorem I9(a:qS g h i=Z j):∃k l,h=.a k/\i=.a l/\g k l=Z j:=by
 cases h with
 |a k=>cases i with|a l=>exact mh k l rfl rfl a|_=>exact nn a
 |_=>exact nn a
theorem I_{g h i}(a:zD g h=Z i):(∃j k,g=.a j/\h=.a k/\V.a (j+k)=i)\/(∃j k,g=.d j/\h=.d k/\j.length+k.length<=mE/\V.d (j++k)=i)\/(∃j k,g=.c j/\h=.c k/\j.length+k.length<=mE/\V.c (j++k)=i):=by
 cases g with
 |a j=>cases h with|a k=>exact .inl ⟨j,k,rfl,rfl,aa a⟩|_=>exact nn a
 |d j=>cases h with|d k=>refine lA (pX a) λb a=>?_;exact .inr (.inl ⟨j,k,rfl,rfl,b,aa a⟩)|_=>exact nn a
 |c j=>cases h with|c k=>refine lA (pX a) λb a=>?_;exact .inr (.inr ⟨j,k,rfl,rfl,b,aa a⟩)|_=>exact nn a
 |_=>exact nn a
theorem Ja{g h i}(a:zE g h=Z i):∃j,h=.a j/\((∃k,g=.a k/\(oX k&&oX j)=I/\V.a (k*j)=i)\/(∃k,g=.c k/\(0<=j&&j<=1&&k.length<=4096)=I/\V.c (aO j.toNat k).flatten=i)\/(∃k,g=.d k/\(0<=j&&j<=1&&k.length<=4096)=I/\V.d (aO j.toNat k).flatten=i)\/(∃k,g=.f k/\(2<=j&&j<=4096&&k.length==1)=I/\V.f (aO j.toNat k).flatten=i)):=by
 cases h with
 |a j=>refine lQ j rfl ?_;cases g with|a k=>obtain⟨b,a⟩:=pX a;exact .inl ⟨k,rfl,b,aa a⟩|c k=>refine lA (pX a) λb a=>?_;exact .inr (.inl ⟨k,rfl,b,aa a⟩)|d k=>obtain⟨b,a⟩:=pX a;exact .inr (.inr (.inl ⟨k,rfl,b,aa a⟩))|f k=>refine lA (pX a) λb a=>?_;exact .inr (.inr (.inr ⟨k,rfl,b,aa a⟩))|_=>exact nn a
 |_=>exact nn a
noncomputable def BO(b:Gd)(e:List bL)(f:aN)(a:Wd)(c:MS)(d:am)(g:gI)(h i:ap)(j:V):Prop:=∀k,az (aC b.a b.w) f (binaryOp g h i) (PO b e VI a c d (.ok j c)) k d
theorem Jb(g:HS b a c d)(h:i.length+j.length<=mE):BO b e f a c d .Add (.str ⟨i.toArray⟩ k) (.str ⟨j.toArray⟩ l) (.d (i++j)):=λm=>by
 refine PyProof.Rows.add_str (λl n=>?_) ?_
 ·have o:(⟨i.toArray⟩:aX)++⟨j.toArray⟩=⟨(i++j).toArray⟩:=by show(⟨i.toArray++j.toArray⟩:aX)=_;simp
  refine o▸?_;exact PO.g g (.d _ _)
 ·show i.toArray.size+j.toArray.size<=cB;unfold mE at h;refine m5▸?_;refine aR▸?_;refine List.size_toArray.symm▸?_;exact(Y [] [i.length,j.length] ⟨[1],[],[.L (.p .a .b) (.k 1048576)],.L (.p .a .b) (.k 16777216)⟩) h
theorem Jc{g h:List V}{i j:ap}(k:VI a i (.c g))(l:VI a j (.c h))(m:HS b a c d)(n:g.length+h.length<=mE):BO b e f a c d .Add i j (.c (g++h)):=λo=>by obtain⟨p,q,r,s,rfl,t,u,v,w⟩:=k.l;obtain⟨x,y,z,A,rfl,B,C,E,F⟩:=l.l;have G:=m.j _ _ t;have H:=m.j _ _ B;rw[zP (a:=p) u v]at G;rw[zP (a:=x) C E]at H;refine concat_meets ⟨_,G,rfl⟩ ⟨_,H,rfl⟩ noFill_list_add seq_list_add PySem.F.slot_list_add PySem.F.entry_list_add (PySem.F.args_list_add_2 _ _) (list_addW p x r.toArray z.toArray s A q.dict y.dict q.slots y.slots ((by refine w.a.symm▸?_;refine F.a▸?_;refine m5▸?_;unfold mE at n;exact(Y [] [g.length,h.length] ⟨[1],[],[.L (.p .a .b) (.k 1048576)],.L (.p .a .b) (.k 16777216)⟩) n:r.length+z.length<=cB))) ⟨G,H,?_⟩;refine PO.c m rfl λJ L=>?_;exact .c L rfl (show _=Data.seq (r++z).toArray 0 by simp) ((w.f F).k J)
theorem Jd{g:List V}{h:Int}{i:ap}(j:VI a i (.c g))(k:HS b a c d)(l:(0<=h&&h<=1&&g.length<=4096)=I):BO b e f a c d .Mult i (.int h m) (.c (aO h.toNat g).flatten):=λn=>by
 obtain⟨o,p,q,r,rfl,s,t,u,v⟩:=j.l;simp only[aJ,decide_eq_true_eq]at l;have w:=k.j _ _ s;rw[zP (a:=o) t u]at w;have x:q.toArray.size*h.toNat<=2^24:=by
  calc q.toArray.size*h.toNat<=4096*1:=Nat.mul_le_mul (List.size_toArray.symm▸((Y [h] [g.length,q.length] ⟨[2,1,3],[],[.A (.A (.l .o .a) (.l .a .u)) (.L .a (.k 4096)),.E .b .a],.L .b (.k 4096)⟩) l (v.a)):q.toArray.size<=4096) ((Y [h] [g.length] ⟨[1,2,3],[.t .a],[.A (.A (.l .o .a) (.l .a .u)) (.L .a (.k 4096))],.L .b .u⟩) l:h.toNat<=1)
   _<=2^24:=by decide
 refine wpAny_binaryOp_repeat_ref (T:="list") (U:="int") (by decide) ⟨_,w,rfl⟩ (λy=>jX y h m) noFill_list_mul F.fills_int_mul F.slot_int_rmul repeat_list F.slot_int_index.lookup (iN F.slot_int_rmul (jX d h m) F.entry_int_rmul (F.args_int_rmul_2 _ _) (lm_int_rmul_list_any h m o q.toArray r p.dict p.slots) ⟨w,rfl,⟨_,w,rfl⟩,iN F.slot_list_mul ⟨_,w,rfl⟩ F.entry_list_mul (F.args_list_mul_2 _ _) (lm_list_mul_any o q.toArray r p.dict p.slots h m (by simp[Builtin.List.listFitsIndex];exact(Y [h] [g.length] ⟨[2,1],[],[.A (.A (.l .o .a) (.l .a .u)) (.L .a (.k 4096))],.A (.l (.k (-9223372036854775808)) .a) (.t .a (.k 9223372036854775808))⟩) l) (by lia) (by simp[iy,cB];omega)) ⟨w,?_⟩⟩);refine PO.c k rfl λz A=>?_;exact .c (vs:=(aO h.toNat q).flatten) (n:=0) A rfl (by rw[listMul_foldl_if]) ((v.m _).k z)
theorem Je(g:HS b a c d)(h:(0<=i&&i<=1&&j.length<=4096)=I):BO b e f a c d .Mult (.str ⟨j.toArray⟩ k) (.int i l) (.d (aO i.toNat j).flatten):=λm=>by
 simp only[aJ,decide_eq_true_eq]at h;have n:i=0\/i=1:=by exact(Y [i] [j.length] ⟨[2,1],[],[.A (.A (.l .o .a) (.l .a .u)) (.L .a (.k 4096))],.O (.e .a .o) (.e .a .u)⟩) h
 rcases n with rfl|rfl;·refine PySem.SB.mul ⟨by decide,λo=>absurd (by decide) o,λo=>absurd (by decide) o⟩ λl p=>?_;exact PO.g g (.d [] _)
 ·refine PySem.SB.mul ⟨by decide,λ_ o=>by simp at o,λ_ o=>by simp at o⟩ λl p=>?_;have q:Txt.mul ⟨j.toArray⟩ 1=⟨((aO (1:Int).toNat j).flatten).toArray⟩:=by refine I8.symm▸?_;rfl
  refine q▸?_;exact PO.g g (.d _ _)
theorem Jf(g:HS b a c d)(h:(2<=i&&i<=4096&&(j.toList.map cG).length==1)=I):BO b e f a c d .Mult (.bytes j k) (.int i l) (.f (aO i.toNat (j.toList.map cG)).flatten):=λm=>by
 simp only[aJ,decide_eq_true_eq,beq_iff_eq,ay]at h;obtain⟨n⟩:=j;simp only at h;refine bytes_mul_K (d:=(aO i.toNat n).flatten) (λo=>by rw[o]at h;simp at h) h.1.1 ((Y [i] [n.length] ⟨[2,1],[],[.A (.A (.l (.k 2) .a) (.l .a (.k 4096))) (.E .a .u)],.l .a (.k 1048576)⟩) h) ?_ rfl λl p=>?_;·refine h.2▸?_;exact(Y [i] [n.length] ⟨[1,2,3],[.t .a],[.A (.A (.l (.k 2) .a) (.l .a (.k 4096))) (.E .a .u)],.L (.m 1 .b) (.k 16777216)⟩) h
 ·have q:V.f (aO i.toNat (b9 cG n)).flatten=V.f ((aO i.toNat n).flatten.toArray.toList.map cG):=by simp[List.map_flatten,List.map_replicate]
  refine q▸?_;exact PO.g g (.f _ _)
theorem sv(g:VI a h i)(j:VI a k l)(m:qS n i l=Z o)(p:∀q r s t,n q r=Z o->BO b e f a c d u (.int q s) (.int r t) o):BO b e f a c d u h k o:=by refine lP (I9 m) λq r v w m=>?_;subst v;subst w;obtain⟨s,rfl⟩:=g.j;refine lp j.j λt v=>?_;refine v▸?_;exact p q r s t m
theorem Jg(g:VI a h i)(j:VI a k l)(m:HS b a c d)(n:zD i l=Z o):BO b e f a c d .Add h k o:=by
 rcases I_ n with⟨p,q,rfl,rfl,rfl⟩|⟨p,q,rfl,rfl,r,rfl⟩|⟨p,q,rfl,rfl,r,rfl⟩;·obtain⟨s,rfl⟩:=g.j;obtain⟨t,rfl⟩:=j.j;exactλu=>PyProof.Rows.add_int (PO.g m (.a _ _))
 ·obtain⟨s,rfl⟩:=g.m;obtain⟨t,rfl⟩:=j.m;exact Jb m r
 ·exact Jc g j m r
theorem Jh{g h}(i:VI a g j)(k:VI a h l)(m:HS b a c d)(n:zE j l=Z o):BO b e f a c d .Mult g h o:=by
 refine ll (Ja n) λp q r=>?_;subst q;obtain⟨s,rfl⟩:=k.j;rcases r with⟨t,rfl,u,rfl⟩|⟨t,rfl,u,rfl⟩|⟨t,rfl,u,rfl⟩|⟨t,rfl,u,rfl⟩;·refine lp i.j λv q=>?_;refine q▸?_;exactλw=>PyProof.Rows.mul_int (PO.g m (.a _ _)) (IntMulOk.of_left (intBits_le (zO (Bool.and_eq_true_iff.mp u).1)))
 ·exact Jd i m u
 ·obtain⟨v,rfl⟩:=i.m;exact Je m u
 ·refine mB i.u λx v q y=>?_;refine q▸?_;subst y;exact Jf m u
theorem Ji{g}{h i j}(k:VI a l h)(m:VI a n i)(o:HS b a c d)(p:lU g h i=Z j):BO b e f a c d g l n j:=by induction g with|Add=>exact Jg k m o p|Mult=>exact Jh k m o p|Sub=>exact sv k m p λq r s t p u=>aa p▸PyProof.Rows.sub_int (PO.g o (.a _ _))|BitAnd=>exact sv k m p λq r s t p u=>aa p▸PyProof.Rows.and_int (PO.g o (.a _ _))|BitOr=>exact sv k m p λq r s t p u=>aa p▸PyProof.Rows.or_int (PO.g o (.a _ _))|FloorDiv=>refine sv k m p λq r s t p u=>?_;refine lA (pX p) λv w=>?_;refine(aa w)▸?_;simp only[aJ,decide_eq_true_eq]at v;refine PyProof.Rows.floordiv_int ((Y [r] [] ⟨[1],[],[.A (.t .o .a) (.t .a (.k 1073741824))],.N (.e .a .o)⟩) v) ?_ (.inl (fW (Int.ofNat_lt.mp (by rw[cX (bj v.1)];exact v.2))));refine(fo _ (bj v.1))▸?_;exact PO.g o (.a _ _)|Mod=>refine sv k m p λq r s t p u=>?_;refine lA (pX p) λv w=>?_;refine(aa w)▸?_;refine PyProof.Rows.mod_int' ((Y [r] [] ⟨[1],[],[.t .o .a],.N (.e .a .o)⟩) v) ?_;refine(jt _ (bj v))▸?_;exact PO.g o (.a _ _)|Pow=>refine sv k m p λq r s t p u=>?_;obtain⟨v,w⟩:=pX p;refine(aa w).symm▸?_;simp only[aJ,decide_eq_true_eq]at v;exact PyProof.Rows.pow_int_small v.1.2 ((Y [r] [] ⟨[1],[],[.l .a (.k 1000)],.l .a (.k 1000000)⟩) v.2) (zO v.1.1) (PO.g o (.a _ _))|LShift=>refine sv k m p λq r s t p u=>?_;obtain⟨v,w⟩:=pX p;refine(aa w).symm▸?_;simp only[aJ,decide_eq_true_eq]at v;exact PyProof.Rows.lshift_int_small v.1.2 ((Y [r] [] ⟨[1],[],[.l .a (.k 1000)],.l .a (.k 1000000)⟩) v.2) (zO v.1.1) (PO.g o (.a _ _))|RShift=>refine sv k m p λq r s t p u=>?_;obtain⟨v,w⟩:=pX p;refine(aa w)▸?_;refine PyProof.Rows.rshift_int v ?_;rw[fo _ (bj (Int.pow_pos (by decide)))];exact PO.g o (.a _ _)|_=>exact nn p
theorem Jj(g:VI a h i)(j:VI a k l)(m:HS b a c d):kY b e f (binaryOp n h k) (M.c (lU n i l)) VI a c d:=I7 λo p=>Ji g j m p _
end
end
section
set_option tactic.hygienic true in
theorem Jk(a:V->V->Option Bool):∀(b c:List V)(d:Bool),pS a b c=Z d->∃e:Nat->Bool,(∀(f)g h,b[f]?=Z g->c[f]?=Z h->a g h=Z (e f))/\d=((dP (min b.length c.length)).all e&&(b.length==c.length)):=by
 intro i;induction i with
 |nil=>intro j;induction j with|nil=>intro d k;exact lQ (λ_=>I) (λf g h k=>nn k) (aa k▸rfl)|cons h c=>intro d k;exact lQ (λ_=>I) (λf g h k=>nn k) (aa k▸rfl)
 |cons g b l=>
  intro m;induction m with|nil=>
   intro d k;exact lQ (λ_=>I) (λf g h _ k=>nn k) (aa k▸rfl)|cons h c=>
   intro d k;refine lP (ru k) λn o p q r=>?_;refine ll (l c o q) λe s t=>?_;refine lQ (λf=>match f with|0=>n|f+1=>e f) (λf u v w x=>?_) ?_;·induction f with|zero=>exact aa w▸aa x▸p|succ f=>exact s f u v w x
   ·refine r▸t▸?_;rw[(show min (g::b).length (h::c).length=min b.length c.length+1 from Nat.succ_min_succ _ _),List.range_succ_eq_map,jE,List.all_map,(by simp:((g::b).length==(h::c).length)=(b.length==c.length)),Bool.and_assoc];rfl
inductive rJ:V->V->Bool->Prop|g:rJ .g .g I|a(a b):rJ (.a a) (.a b) (a==b)|d(a b):rJ (.d a) (.d b) (a==b)|h(a b):rJ (.h a) (.h b) (a==b)
theorem vz(a:zG b c d=Z e):rJ c d e\/(∃f g,c=.e f/\d=.e g/\b f g=Z e)\/(∃f g,c=.c f/\d=.c g/\b f g=Z e):=by
 cases c with
 |g=>cases d with|g=>exact .inl (aa a▸.g)|_=>exact nn a
 |a h=>cases d with|a i=>exact .inl (aa a▸.a h i)|_=>exact nn a
 |d h=>cases d with|d i=>exact .inl (aa a▸.d h i)|_=>exact nn a
 |h h=>cases d with|h i=>exact .inl (aa a▸.h h i)|_=>exact nn a
 |e h=>cases d with|e i=>exact .inr (.inl ⟨h,i,rfl,rfl,a⟩)|_=>exact nn a
 |c h=>cases d with|c i=>exact .inr (.inr ⟨h,i,rfl,rfl,a⟩)|_=>exact nn a
 |_=>exact nn a
section
variable{a:Wd}
theorem lx.h(b:lx a i j):∀{o:Nat}(c:o<i.length),∃p,j[o]?=Z p/\VI a i[o] p:=by induction b using lx.e with|c=>exactλc=>absurd c (gA _)|b d _ e=>intro o c;induction o with|zero=>exact lQ _ rfl d|succ o=>exact e (ej c)
theorem lx.ne(b:lx a i (j::o)):∃p q,i=p::q/\VI a p j/\lx a q o:=by induction i with|nil=>exact nomatch b.a|cons p i=>exact mh p i rfl (by cases b;assumption) (by cases b;assumption)
theorem lx.nl(b:lx a i []):i=[]:=List.length_eq_zero_iff.mp b.a
theorem lx.mF(b:lx a i [j]):∃o,i=[o]/\VI a o j:=by refine lP b.ne λo c d e f=>?_;exact lQ o (by refine ah d ?_;exact congrArg _ f.nl) e
theorem lx.two(b:lx a i [j,o]):∃p q,i=[p,q]/\VI a p j/\VI a q o:=by refine lP b.ne λp c d e f=>?_;refine ll f.mF λq g h=>?_;exact mh p q (by refine ah d ?_;exact congrArg _ g) e h
theorem lx.l(b:lx a [] i):i=[]:=List.length_eq_zero_iff.mp b.a.symm
theorem lx.cr(b:lx a (i::j) o):∃p q,o=p::q/\VI a i p/\lx a j q:=by induction o with|nil=>exact nomatch b.a|cons p o=>exact mh p o rfl (by cases b;assumption) (by cases b;assumption)
theorem Cy(b)(c:∀{d:ap}{e f:V}{g:Bool},VI a d e->VI a d f->nu b e f=Z g->g=I)(h):∀(i j:List V)(g:Bool),lx a h i->lx a h j->pS (nu b) i j=Z g->g=I:=by induction h with|nil=>intro i j g k l m;replace m:=l.l▸k.l▸m;exact(aa m).symm|cons d h n=>intro i j g k l m;obtain⟨e,i,rfl,o,k⟩:=k.cr;obtain⟨f,j,rfl,p,l⟩:=l.cr;refine lP (ru m) λq r s t u=>?_;refine ah u.symm ?_;refine(c o p s).symm▸?_;refine ah (n i j r k l t) ?_;rfl
theorem Cz(b:rJ c d e)(f:VI a g c)(h:VI a g d):e=I:=by induction b with|g=>rfl|a i j=>refine lp f.j λk l=>?_;subst l;obtain⟨m,n⟩:=h.j;injection n with n;exact beq_iff_eq.mpr n|d i j=>refine lp f.m λk l=>?_;subst l;obtain⟨m,n⟩:=h.m;injection n with n _;injection n with n;injection n with n;exact beq_iff_eq.mpr n|h i j=>have n:=f.r.symm.trans h.r;injection n with n;exact beq_iff_eq.mpr n
theorem CD{b:ap}{c d:List ap}(e:b=.ref f)(g:b=.ref h)(i:a.φ f=Z j)(k:a.φ h=Z l)(m:j.data=.seq c.toArray n)(o:l.data=.seq d.toArray p):c=d:=by subst e;injection g with g;subst g;obtain rfl:=aa (i.symm.trans k);have q:=m.symm.trans o;injection q with q _;exact List.toArray_inj q
theorem Jl(b)(c:VI a d e)(f:VI a d g)(h:nu b e g=Z i):i=I:=by
 induction b generalizing d e g i with
 |zero=>
  refine aB (vz h) (λj=>?_) (λk=>aB k (λl=>lP l λ_ _ _ _ j=>?_) (λm=>lP m λ_ _ _ _ j=>?_));·exact Cz j c f
  ·exact nn j
  ·exact nn j|succ b n=>
  rcases vz h with j|⟨_,_,rfl,rfl,j⟩|⟨_,_,rfl,rfl,j⟩;·exact Cz j c f
  ·obtain⟨o,p,q,_,r,s,_,t,u⟩:=c.o;obtain⟨v,w,x,_,y,z,_,A,B⟩:=f.o;exact Cy b n _ _ _ _ u (CD r y s z t A▸B) j
  ·obtain⟨o,p,q,_,r,s,_,t,u⟩:=c.l;obtain⟨v,w,x,_,y,z,_,A,B⟩:=f.l;exact Cy b n _ _ _ _ u (CD r y s z t A▸B) j
end
theorem Jm(a b:List Nat):((⟨a.toArray⟩:aX)==⟨b.toArray⟩)=(a==b):=by rw[←str_beq]
section
variable{d:Gd}{f:List bL}{a:aN}{b:Wd}{e:MS}{c:am}
theorem VI.v(a:HS d b e c){w:List ap}(f:b.φ x=Z y)(g:y.cls=.type "tuple")(h:y.data=.seq w.toArray z):c.heap.IsTuple x w.toArray:=⟨y,a.j _ _ f,g,z,h⟩
theorem VI.p(a:HS d b e c){w:List ap}(f:b.φ x=Z y)(g:y.cls=.type "list")(h:y.data=.seq w.toArray z):c.heap.IsList x w.toArray:=⟨y,a.j _ _ f,g,z,h⟩
theorem CE(d:∀{a:aN}{g h:ap}{i j:V}{k:Bool},a.units+l<hW->VI b g i->VI b h j->nu l i j=Z k->EqAt a c g h k)(e:lx b m n)(f:lx b o p)(q:pS (nu l) n p=Z k)(r:a.units+(l+1)<hW):∃s:Nat->Bool,(∀t(u:t<m.toArray.size)(v:t<o.toArray.size),EqAt a.in1 c m.toArray[t] o.toArray[t] (s t))/\k=((dP (min m.length o.length)).all s&&(m.length==o.length)):=by refine gz λw x=>?_;refine ll (Jk _ _ _ _ q) λs y z=>?_;refine x ?_;refine lQ s (λt u v=>?_) (by refine ah z ?_;exact e.a▸f.a▸rfl);refine ll (e.h (u:t<m.length)) λA B C=>?_;refine ll (f.h (v:t<o.length)) λE F G=>?_;exact d (a:=a.in1) ((Y [] [a.units,l,hW] ⟨[1],[],[.T (.p .a (.p .b .u)) .c],.T (.p (.p .a .u) .b) .c⟩) r) C G (y t A E B F)
theorem CF(f:HS d b e c)(g:Nat)(h:∀{a:aN}{i j:ap}{k l:V}{m:Bool},a.units+g<hW->VI b i k->VI b j l->nu g k l=Z m->EqAt a c i j m){k l}(n:a.units+(g+1)<hW)(o:VI b i k)(p:VI b j l)(q:(∃r s,k=.e r/\l=.e s/\pS (nu g) r s=Z m)\/(∃r s,k=.c r/\l=.c s/\pS (nu g) r s=Z m)):∃t u,i=.ref t/\j=.ref u/\RcAt a c i j m/\RcNeAt a c i j (!m):=by
 have v:a.units<hW:=by exact(Y [] [a.units,g,hW] ⟨[2,1],[],[.T (.p .a (.p .b .u)) .c],.T .a .c⟩) n
 rcases q with⟨r,s,rfl,rfl,w⟩|⟨r,s,rfl,rfl,w⟩;·obtain⟨t,x,y,z,rfl,A,B,C,E⟩:=o.o;obtain⟨u,F,G,H,rfl,J,L,M,N⟩:=p.o;obtain⟨O,P,Q⟩:=CE (a:=a) h E N w n;have R:=RcAt.tuples (A:=a) (VI.v f A B C) (VI.v f J L M) v P;have S:=RcNeAt.tuples (A:=a) (VI.v f A B C) (VI.v f J L M) v P;rw[aR,aR,←Q]at R S;exact t0 _ _ rfl rfl R S
 ·obtain⟨t,x,y,z,rfl,A,B,C,E⟩:=o.l;obtain⟨u,F,G,H,rfl,J,L,M,N⟩:=p.l;obtain⟨O,P,Q⟩:=CE (a:=a) h E N w n;refine mh _ _ rfl rfl ?_;by_cases T:y.length=G.length;·have R:=RcAt.lists (A:=a) (VI.p f A B C) (VI.p f J L M) (T) v P;rw[(by rw[Q,←T];simp:m=(dP y.toArray.size).all O)];exact n0 R (RcNeAt.lists (A:=a) (VI.p f A B C) (VI.p f J L M) (T) v P)
  ·have U:m=ak:=by refine ah Q ?_;simp[T]
   rw[U];exact⟨RcAt.lists_lengths (A:=a) (VI.p f A B C) (VI.p f J L M) (by simpa using T) v,RcNeAt.lists_lengths (A:=a) (VI.p f A B C) (VI.p f J L M) (by simpa using T) v⟩
theorem CG{g:ap->ap->Bool->Prop}(a:rJ h i j)(c:VI b k h)(d:VI b l i)(e:g .none .none I)(f:∀m n j o,g (.int m n) (.int j o) (m==j))(p:∀m n j o,g (.str m n) (.str j o) (m==j))(q:∀m j,g (.bool m) (.bool j) (m==j)):g k l j:=by induction a with|g=>exact c.s.symm▸d.s.symm▸e|a=>refine lp c.j λ_ r=>?_;refine r▸?_;obtain⟨_,rfl⟩:=d.j;exact f _ _ _ _|d=>refine lp c.m λ_ r=>?_;refine r▸?_;obtain⟨_,rfl⟩:=d.m;rw[←Jm];exact p _ _ _ _|h=>exact c.r▸d.r▸(q _ _)
theorem CH{a}(d:rJ g h i)(e:VI b j g)(f:VI b k h):EqAt a c j k i:=CG (g:=EqAt a c) d e f (EqAt.same _) (λ_ _ _ _=>EqAt.int_int _ _ _ _) (λ_ _ _ _=>EqAt.str_str _ _ _ _) (λ_ _=>EqAt.bool_bool _ _)
theorem Jn{a}(d:rJ g h i)(e:VI b j g)(f:VI b k h):RcAt a c j k i/\RcNeAt a c j k (!i):=CG (g:=λj k i=>RcAt a c j k i/\RcNeAt a c j k (!i)) d e f ⟨RcAt.none_none,RcNeAt.none_none⟩ (λ_ _ _ _=>⟨RcAt.int_int _ _ _ _,RcNeAt.int_int _ _ _ _⟩) (λ_ _ _ _=>⟨RcAt.str_str _ _ _ _,RcNeAt.str_str _ _ _ _⟩) (λ_ _=>⟨RcAt.bool_bool _ _,RcNeAt.bool_bool _ _⟩)
theorem Jo(f:HS d b e c)(g)(h:a.units+g<hW)(i:VI b j k)(l:VI b m n)(o:nu g k n=Z p):EqAt a c j m p:=by
 induction g generalizing a j m k n p with
 |zero=>
  refine aB (vz o) (λq=>?_) (λr=>aB r (λs=>lP s λ_ _ _ _ q=>?_) (λt=>lP t λ_ _ _ _ q=>?_));·exact CH q i l
  ·exact nn q
  ·exact nn q|succ g u=>
  refine aB (vz o) (λq=>?_) (λv=>?_);·exact CH q i l
  ·refine sY (CF f g u h i l v) λw x y z A _=>?_;subst y;subst z;by_cases B:w=x;·induction B;exact(Jl (g+1) i l o)▸(EqAt.same _)
   ·exact EqAt.of_refs B A
theorem CI(f:HS d b e c)(g:a.units+8<hW)(h:VI b i j)(k:VI b l m)(n:nu 8 j m=Z o):RcAt a c i l o/\RcNeAt a c i l (!o):=by
 refine aB (vz n) (λp=>?_) (λq=>?_);·exact Jn p h k
 ·refine lP (CF f 7 (Jo f 7) g h k q) λ_ _ _ _ r=>?_;exact r
end
end
section
noncomputable def BI(a:Wd)(b:ap)(c:Bool):Prop:=b=.bool c
section
variable{l:Gd}{p:List bL}{q:aN}{c:Wd}{k:MS}{m:am}
theorem mA.d(a:mA c n o):(∀r,gf n s=Z r->∃t,mL s o=Z t/\VI c r t)/\(gf n s=D->mL s o=D):=by
 induction a with|c=>exact⟨λr b=>nn b,λ_=>rfl⟩|@b d r t o e f g h=>
  unfold gf mL at h⊢;by_cases a:d=s;·simp only[List.find?_cons,a,decide_true,gc];exact⟨λr b=>⟨_,rfl,aa b▸f⟩,λb=>nomatch b⟩
  ·simp only[List.find?_cons,a,decide_false];exact h
theorem mA.i(a:mA c n o):(gf n r).isSome=(mL r o).isSome:=by cases b:gf n r with|none=>refine(a.d.2 b)▸?_;rfl|some d=>refine ll (a.d.1 d b) λe f _=>?_;refine f▸?_;rfl
theorem mA.e(a:mA c n o)(b:mL r o=Z s):∃t,gf n r=Z t/\VI c t s:=by cases d:gf n r with|none=>exact nn ((a.d.2 d).symm.trans b)|some t=>refine ll (a.d.1 t d) λe f g=>?_;rw[f]at b;refine(aa b)▸?_;exact lQ t rfl g
theorem mA.g(a:mA c n o)(b:mL r o=D):gf n r=D:=by cases d:gf n r with|none=>rfl|some e=>refine ll (a.d.1 e d) λf g h=>?_;rw[g]at b;exact nn b.symm
theorem mA.a(a:mA c n o):n.length=o.length:=by induction a with|c=>rfl|b _ _ b=>refine ah bE ?_;refine ah ?_ List.length_cons.symm;exact congrArg _ b
theorem mA.f(a:mA c n o)(b:mA c r s):mA c (n++r) (o++s):=by induction a with|c=>exact b|b d _ e=>exact .b d e
theorem mA.any(a:mA c n o):n.any (λr=>aE (r.1=s))=o.any (λr=>aE (r.1=s)):=by induction a with|c=>rfl|b _ _ b=>refine ah ik ?_;refine ah ?_ List.any_cons.symm;exact congrArg _ b
theorem mA.j(a:VI c n o)(b:mA c r s):mA c (r.map λt=>if t.1=u then(t.1,n)else t) (s.map λt=>if t.1=u then(t.1,o)else t):=by
 induction b with|c=>exact .c|@b d n o s e f b g=>
  rw[dr,dr];by_cases h:d=u;·simp only[h,if_true];exact .b a g
  ·simp only[h,if_false];exact .b f g
theorem mA.stored(a:VI c n o)(b:mA c r s):mA c (PySem.stored r t n) (pT t o s):=by
 delta PySem.stored pT;refine b.any▸?_;split;·exact b.j a
 ·exact b.f (.b a .c)
theorem mA.h(a:mA c n o):mA c (PySem.without n r) (qU r o):=by
 induction a with|c=>exact .c|@b b d e o f g a h=>
  unfold PySem.without qU at h⊢;by_cases i:b=r;·simp only[cq,i,ne_eq,not_true_eq_false,decide_false,fj,if_false];exact h
  ·simp only[cq,i,ne_eq,not_false_eq_true,decide_true,if_true];exact .b g h
theorem HS.x(a:HS l c k m)(b:d∈c.as):(d==sysModules)=ak:=by
 have e:=a.q d b;have:d≠sysModules:=λf=>by replace e:=f▸e;exact absurd e (by decide)
 simpa using this
theorem tn(a)(b)(d)(e):(eU a b).is d (.int d e)=I:=intKind_is a b d e
theorem vA(a:lx c b d):∀{e:List Int},nx d=Z e->IntsAre b e:=by induction a using lx.e with|c=>intro e a;exact(aa (show Z []=Z e from a))▸.nil|@b f g d h i j k=>intro e a;cases g with|a l=>refine lp i.j λm n=>?_;refine n▸?_;refine ll (t9 (a:(nx h).map (l::·)=Z e)) λo p q=>?_;exact q▸.cons _ _ (k p)|_=>exact nn a
theorem Jp(a:∀b,d=Z b->az (aC l.a l.w) q e (PO l p BI c k m (.ok b k)) (PE l p c k m (.ok b k)) m):kY l p q e (M.c d) BI c k m:=by induction d with|none=>exact kY.b|some f=>exactλ_=>a f rfl
theorem CJ(a:iV b=Z d):b=.a d:=by cases b with|a _=>cases a;rfl|_=>exact nn a
theorem w8{a:ap->ap->Bool->Prop}(b:VI c d e)(f:VI c g h)(i:ub j e h=Z n)(k:∀o r s t,a (.int o r) (.int s t) (j o s)):a d g n:=by unfold ub at i;cases l:iV e with|none=>replace i:=l▸i;exact nn i|some o=>replace i:=l▸i;cases m:iV h with|none=>replace i:=m▸i;cases i|some s=>replace i:=m▸i;cases i;refine lp ((CJ l▸b).j) λr p=>?_;refine p▸?_;refine lp ((CJ m▸f).j) λt p=>?_;refine p▸?_;exact k o r s t
theorem CK{a:ap->Bool->Prop}(b:VI c d e)(f:VI c g h)(i:zH j e h=Z n)(k:a .none j)(l:∀o r,a (.int o r) !j)(m:∀s,a (.ref s) !j):g=.none/\a d n:=by
 cases h with
 |g=>refine⟨f.s,?_⟩;cases e with|g=>cases i;exact b.s▸k|a o=>cases i;refine lp b.j λr p=>?_;refine p▸?_;exact l o r|e q=>cases i;obtain⟨s,t,q,u,rfl,_⟩:=b.o;exact m s|_=>exact nn i
 |_=>exact nn i
theorem Jq(a:q.units+8<hW)(b:VI c d e)(f:VI c g h)(i:HS l c k m):kY l p q (cD j d g) (M.c (Cn j e h)) BI c k m:=by refine Jp λn o=>?_;induction j with|Eq=>exact(CI i a b f o).1 _ _ _ _ (PO.a i rfl)|NotEq=>refine ll (jF.1 o) λr s t=>?_;induction t;exact(CI i a b f s).2 _ _ _ _ (PO.a i rfl)|Lt=>exact w8 (a:=λd g n=>az (aC l.a l.w) q (cD .Lt d g) (PO l p BI c k m (.ok n k)) (PE l p c k m (.ok n k)) m) b f o λ_ _ _ _=>jc (PO.a i rfl)|LtE=>exact w8 (a:=λd g n=>az (aC l.a l.w) q (cD .LtE d g) (PO l p BI c k m (.ok n k)) (PE l p c k m (.ok n k)) m) b f o λ_ _ _ _=>PyProof.Rows.le_int (PO.a i rfl)|Gt=>exact w8 (a:=λd g n=>az (aC l.a l.w) q (cD .Gt d g) (PO l p BI c k m (.ok n k)) (PE l p c k m (.ok n k)) m) b f o λ_ _ _ _=>PyProof.Rows.gt_int (PO.a i rfl)|GtE=>exact w8 (a:=λd g n=>az (aC l.a l.w) q (cD .GtE d g) (PO l p BI c k m (.ok n k)) (PE l p c k m (.ok n k)) m) b f o λ_ _ _ _=>PyProof.Rows.ge_int (PO.a i rfl)|Is=>refine lA (CK (a:=λd n=>az (aC l.a l.w) q (cD .Is d .none) (PO l p BI c k m (.ok n k)) (PE l p c k m (.ok n k)) m) b f o (wpAny_is_self rfl (PO.a i rfl)) (λ_ _=>PyProof.Rows.is_int_none (PO.a i rfl)) (λ_=>PyProof.Rows.is_ref_none (PO.a i rfl))) λt u=>?_;refine t▸?_;exact u|IsNot=>refine lA (CK (a:=λd n=>az (aC l.a l.w) q (cD .IsNot d .none) (PO l p BI c k m (.ok n k)) (PE l p c k m (.ok n k)) m) b f o (wpAny_isNot_self rfl (PO.a i rfl)) (λ_ _=>PyProof.Rows.isnot_int_none (PO.a i rfl)) (λ_=>PyProof.Rows.isnot_ref_none (PO.a i rfl))) λt u=>?_;refine t▸?_;exact u|_=>exact nn o
theorem Jr(a:IntsAre b d)(e):(b.toArray.any λf=>match f with|.int g _=>g==e|_=>ak)=d.contains e:=by refine ah List.any_toArray ?_;induction a with|nil=>rfl|cons g c h i=>refine ik▸?_;refine ah ?_ List.contains_cons.symm;refine ah (congrArg _ i) ?_;exact congrArg (·||_) BEq.comm
theorem Js(a:IntsAre b d)(e)(f):∀g,g∈b.toArray->EqAt q m g (.int e f) (match g with|.int h _=>h==e|_=>ak):=by intro g c;rw[List.mem_toArray]at c;induction a with|nil=>cases c|cons h i j k=>cases c with|head=>exact EqAt.int_int _ _ _ _|tail _ l=>exact k l
section
variable{e g:Type}{d:Wd->e->g->Prop}
theorem kY.iM(s:ap->gF e){t:Int->M g}(a:VI c u v)(b:∀w x,kY l p q (s (.int w x)) (t w) d c k m):kY l p q (s u) (iM t v) d c k m:=by cases v with|a w=>refine lp a.j λx f=>?_;subst f;exact b w x|_=>exact kY.b
theorem kY.rM(s:ap->gF e){t:Nat->M g}(a:VI c u v)(b:∀w x,c.as[w]?=Z x->kY l p q (s (.ref x)) (t w) d c k m):kY l p q (s u) (rM t v) d c k m:=by cases v with|b w=>refine ll a.n λx f h=>?_;subst f;exact b w x h|_=>exact kY.b
theorem kY.mR{s:gF e}{t:MO->M g}(a:∀u,k.σ[v]?=Z u->kY l p q s (t u) d c k m):kY l p q s (mR v t) d c k m:=by intro b;unfold Mine.Internal.mR at b⊢;revert b;cases f:k.σ[v]? with|none=>exactλa=>absurd rfl a|some u=>exact a u f
theorem kY.lM{s:gF e}{t:List V->M g}(a:∀u,v=.c u->kY l p q s (t u) d c k m):kY l p q s (lM t v) d c k m:=by induction v with|c u=>exact a u rfl|_=>exact kY.b
theorem kY.uf{s:gF e}{t:Nat->Nat->M g}(a:∀u v,w=.a u v->kY l p q s (t u v) d c k m):kY l p q s (uf t w) d c k m:=by induction w with|a u v=>exact a u v rfl|_=>exact kY.b
theorem kY.aM{s:gF e}{t:List (Nat×V)->M g}(a:∀u,v=.b u->kY l p q s (t u) d c k m):kY l p q s (aM t v) d c k m:=by induction v with|b u=>exact a u rfl|_=>exact kY.b
noncomputable def uq(k:MS)(a:MO)(b:V):Prop:=match b with|.b f=>k.σ[f]?=Z a|_=>a=.c []
theorem uq.b(a:uq k f h):∀i,h=.b i->k.σ[i]?=Z f:=λi b=>(b▸a:uq k f (.b i))
noncomputable def MO.nl(a:MO):Prop:=by cases a with|c _=>exact False|_=>exact True
theorem Jt{a:Prop}(b:MO.a f h=MO.c []):a:=((congrArg MO.nl b).mp trivial).elim
theorem uq.a(a:uq k (.a f h) i)(b:VI c j i):∃(n o:Nat),j=.ref n/\k.σ[o]?=Z (MO.a f h)/\c.as[o]?=Z n:=by cases i with|b o=>exact ll b.n λn d e=>mh n o d a e|_=>exact Jt a
theorem kY.ti{s:gF e}{t:MO->M g}(a:∀u,uq k u v->kY l p q s (t u) d c k m):kY l p q s (ti v t) d c k m:=by cases v with|b b=>exact kY.mR λu f=>a u f|_=>exact a _ rfl
theorem kY.vw{s:Type}{t:gF e}{u:Option s}{v:M g}(a:u=D->kY l p q t v d c k m):kY l p q t (vw u v) d c k m:=by induction u with|none=>exact a rfl|some b=>exact kY.b
theorem kY.n{s:Type}{t:gF e}{u:Option s}{v:s->M g}(a:∀w,u=Z w->kY l p q t (v w) d c k m):kY l p q t (M.lG u v) d c k m:=by induction u with|none=>exact kY.b|some w=>exact a w rfl
theorem kY.f{s:gF e}{t:Prop}[Decidable t]{u:M g}(a:t->kY l p q s u d c k m):kY l p q s (if t then u else M.b) d c k m:=by
 by_cases b:t;·refine(if_pos b).symm▸?_;exact a b
 ·refine(if_neg b).symm▸?_;exact kY.b
theorem kY.o{s:Type}{t:gF e}{u:Option s}{v:s->M g}(a:∀w,u=Z w->kY l p q t (v w) d c k m):kY l p q t (M.bind (M.c u) v) d c k m:=by induction u with|none=>exact kY.b|some w=>exact a w rfl
end
theorem CM{a b}(d:q.units+8<hW)(e:VI c a f)(g:VI c b h)(i:HS l c k m):kY l p q (cD .In a b) (vv f h) BI c k m:=kY.iM (λa=>cD .In a b) e λj n=>kY.rM (cD .In (.int j n)) g λo r s=>kY.mR λt u=>by have v:=i.k o t r u s;induction t with|c w=>refine kY.o λx y _=>ll v λz A B=>?_;have C:=vA B y;refine in_listAt _ A.isList (Js C j n) ?_;refine(Jr C j)▸?_;exact PO.a i rfl|m E=>refineλ_=>ll v λF G B=>?_;refine wpAny_in_of (tn l.a l.w j n) (i.x (aH s)) G.mapOf ?_;refine B.i▸?_;exact PO.g i rfl|_=>exact kY.b
theorem Ju(a:q.units+8<hW)(b:VI c d e)(f:VI c g h)(i:HS l c k m):kY l p q (cD .NotIn d g) (M.bind (vv e h) λj=>M.pure (!j)) BI c k m:=by
 have n:(cD .NotIn d g:gF ap)=(contains g d>>=λo=>ba (.bool !o)):=rfl;have r:=CM (p:=p) (q:=q) (k:=k) a b f i;have s:(cD .In d g:gF ap)=(contains g d>>=λo=>ba (.bool o)):=rfl;rw[s]at r;refine n▸?_;intro t;intro u v w;have x:=(r (λy=>t (by unfold M.bind;exact y.symm▸rfl):vv e h k≠.b)) u v w;rw[Sem.wp_bind']at x⊢;refine Sem.wp_mono _ _ _ (λo z A B=>?_) (λn z A C=>?_) v m x;·obtain⟨E,F,G,H,J,L,N⟩:=B;refine⟨!E,F,G,by unfold M.bind;refine H▸?_;rfl,J,L,?_⟩;have:kE o=kE E:=N;cases this;rfl
 ·obtain⟨e,F,G,H,O,i,j⟩:=C;exact⟨e,F,G,by unfold M.bind;exact H.symm▸rfl,O,i,j⟩
theorem zQ(a:q.units+8<hW)(b:VI c d e)(f:VI c g h)(i:HS l c k m):kY l p q (cD j d g) (mz j e h) BI c k m:=by induction j with|In=>exact CM a b f i|NotIn=>exact Ju a b f i|_=>exact Jq a b f i
theorem kY.iO{g:Type}{s:Wd->ap->g->Prop}(t:ap->gF ap){u:Int->Option g}(a:VI c v w)(b:∀x y,kY l p q (t (.int x y)) (M.c (u x)) s c k m):kY l p q (t v) (M.c (iO u w)) s c k m:=by cases w with|a x=>refine lp a.j λy d=>?_;subst d;exact b x y|_=>exact kY.b
theorem Jv{a}{b}(d:VI c e b)(f:HS l c k m):kY l p q (unaryOp a e) (M.c (unop a b)) VI c k m:=by induction a with|USub=>exact kY.iO (unaryOp .USub) d λg h _=>i4 (PO.g f (.a _ _))|Invert=>exact kY.iO (unaryOp .Invert) d λg h _=>PyProof.Rows.invert_int (PO.g f (.a _ _))|_=>exact kY.b
theorem CN{a}{b d}(e:VI c f b)(g:VI c h d)(i:HS l c k m):kY l p q (inplaceOp a f h) (M.c (ua a b d)) VI c k m:=by induction a with|Add=>exact kY.iO (λf=>inplaceOp .Add f h) e λj n=>kY.iO (inplaceOp .Add (.int j n)) g λo r _=>PyProof.Rows.iadd_int (PO.g i (.a _ _))|_=>exact kY.b
theorem w9(a:VI c b d)(e:HS l c k m):kY l p q (gW b) (M.c (pU d)) (λ_ f g=>f=g) c k m:=by cases d with|g=>exact a.s▸(λ_=>PyProof.Rows.truthy_none (PO.a e rfl))|h f=>exact a.r▸(λ_=>gh (PO.a e rfl))|a h=>refine lp a.j λi j=>?_;subst j;exactλ_=>PyProof.Rows.truthy_int (PO.a e rfl)|_=>exact kY.b
end
end
section
open Builtin Builtin.ObjectAttr
section
variable{d:eT}{c:iF}{e:aN}{b:ew}{a:am}{f:ap->am->Prop}
theorem CO(a:g.key.isStr h=I):kF h i j k (g::l)=⟨g.hash,g.key,k⟩::l:=if_pos a
theorem CP(a:¬g.key.isStr h=I):kF h i j k (g::l)=g::kF h i j k l:=if_neg a
theorem Jw(g):(kF h i j k g).length<=g.length+1:=by
 induction g with|nil=>exact al _|cons a b c=>
  by_cases d:a.key.isStr h=I;·exact(CO d).symm▸aL _
  ·exact(CP d).symm▸cM c
theorem Jx(a:(gJ g h).isSome=I):(!h.toArray.any (·.key.isStr g)&&h.toArray.any (·.refKey))=ak:=by refine Array.any_toList▸Array.any_toList▸?_;cases b:h.find? (·.key.isStr g)with|some c=>exact(List.any_eq_true.mpr ⟨c,fG b,i5 (p:=λd:c7=>d.key.isStr g) b⟩:h.any (·.key.isStr g)=I).symm▸rfl|none=>cases e:h.any (·.refKey)with|false=>exact Bool.and_false _|true=>delta gJ at a;replace a:=e▸b▸a;exact ft a
theorem zR(b:a.heap.get? g=Z (dG h i))(j:(gJ k h).isSome=I)(l:h.length+1<=1000)(m:∀n o p q r,n.get? g=Z (dG (kF k o (.str k r) s h) q)->bA g a.heap n->Q (.done (.ret .none)) {a with heap:=n,toks:=p}):az (aC d c) e (storeInDict g (.str k p) k s) Q f a:=by have t:=putName_dict k (cw c.params k) (.str k a.toks) s h i;have u:(a.heap.update g (Obj.putName k (cw c.params k) (.str k a.toks) s)).get? g=Z (dG (kF k (cw c.params k) (.str k a.toks) s h) (putN k h i)):=(bQ (Obj.putName k (cw c.params k) (.str k a.toks) s) b (t▸rfl)).trans (congrArg Z t);refine af (au (af ?_));refine af (af (wpAny_askSetting (au (af (wpAny_mkText (af (jY b ?_)))))));dsimp only;rw[aRefKeyMayBeTheName_at,Jx j];refine wpAny_updatePart b ?_;refine af (wpAny_lookBehind u (pastItsLine_dict (ao (Jw h) (ao l (by decide)))) ?_);exact au (m _ _ _ _ _ u (cS ..))
theorem Jy{g}{f:ek->am->Prop}(h:b.In a.heap)(i:InstAt a.heap j k l (Z (dG m n)))(o:k.dict=Z p)(q:kQ b l=I)(r:jM b l s=Z D)(t:eN b l=I)(u:(gJ s m).isSome=I)(v:m.length+1<=1000)(w:∀x y z A B,x.get? p=Z (dG (kF s y (.str s B) g m) A)->bA p a.heap x->f (.ok (.ret .none)) {a with heap:=x,toks:=z}):dY (aC d c) e (.call (.builtin "object.__setattr__") ⟨[.ref j,.str s z,g],[]⟩) f a:=by refine osa_open h i q r λC=>?_;refine gz λE F=>?_;refine ll (any_some t) λG H J=>?_;obtain⟨L,M,N,O⟩:=i;obtain⟨P,Q,a0,a3⟩:=k;refine F ?_;dsimp only at M o O;subst M;subst o;refine af (au (af (af (jY L (af ((looks_clsIn h H).here ?_))))));refine J.symm▸?_;refine au (a:=Z p) ?_;exact zR (p:=z) O u v λR S T U V W X=>w R S T U V W X
theorem Jz(g:b.In a.heap)(h:InstAt a.heap i j k (Z (dG l m)))(n:j.dict=Z o)(p:dH b (.ref k) "__setattr__"=Z (Z (.builtin "object.__setattr__")))(q:kQ b k=I)(r:jM b k s=Z D)(t:eN b k=I)(u:(gJ s l).isSome=I)(v:l.length+1<=1000)(w:∀x y z A B,x.get? o=Z (dG (kF s y (.str s B) C l) A)->bA o a.heap x->Q () {a with heap:=x,toks:=z}):az (aC d c) e (setAttr (.ref i) s C) Q f a:=set_plain g h p (Jy (a:={a with toks:=a.toks+1}) g h n q r t u v w)
end
structure zS(G:Gd)(C n:Nat):Prop where
 plain:plainGet G.K C (G.nm n)=I
 m:eN G.K C=I
 find:∃attr,dH G.K (.ref C) (G.nm n)=Z attr/\noGet G.K attr=I
structure zU(G:Gd)(C n:Nat):Prop where
 t:dH G.K (.ref C) "__setattr__"=Z (Z (.builtin "object.__setattr__"))over:kQ G.K C=I
 a:jM G.K C (G.nm n)=Z D
 m:eN G.K C=I
structure CQ(G:Gd)(C n f:Nat):Prop where
 plain:plainGet G.K C (G.nm n)=I
 find:dH G.K (.ref C) (G.nm n)=Z (Z (.ref f))isFn:isFn G.K (.ref f)=I
section
variable{c:Gd}{g:List bL}{h:aN}{b:Wd}{d:MS}{e:am}{f:PT}
theorem HS.K(a:HS c b d e):c.K.In e.heap:=c.X.keeps a.v
section
variable{m:Type}{a k:Nat}{l j:m}{i:List (Nat×m)}
theorem zV(b:k=a):Mine.Internal.kZ a ((k,l)::i)=Z l:=congrArg (λj=>bif j then Z l else Mine.Internal.kZ a i) (beq_iff_eq.mpr b)
theorem CS(b:k≠a):Mine.Internal.kZ a ((k,l)::i)=Mine.Internal.kZ a i:=congrArg (λj=>bif j then Z l else Mine.Internal.kZ a i) (beq_eq_false_iff_ne.mpr b)
theorem JA(b:k=a):Mine.Internal.k9 a j ((k,l)::i)=(a,j)::i:=congrArg (λc=>bif c then(a,j)::i else(k,l)::Mine.Internal.k9 a j i) (beq_iff_eq.mpr b)
theorem JB(b:k≠a):Mine.Internal.k9 a j ((k,l)::i)=(k,l)::Mine.Internal.k9 a j i:=congrArg (λc=>bif c then(a,j)::i else(k,l)::Mine.Internal.k9 a j i) (beq_eq_false_iff_ne.mpr b)
end
theorem w_{a:Nat->aX}{i:c7}(b:i.key=.str (a j) k):i.key.isStr (a l)=(a j==a l):=b.symm▸rfl
theorem n9.kZ{i:Nat->aX}(a:∀j l,i j=i l->j=l){m:List c7}(c:n9 i b m n):(∀o,kZ p n=Z o->∃q,gJ (i p) m=Z (Z q)/\VI b q o)/\(kZ p n=D->gJ (i p) m=Z D):=by
 induction c with|c=>exact⟨λo d=>nn d,λ_=>rfl⟩|@b r m e o n f g c h=>
  refine lp f λk f=>?_;by_cases s:e=p;·subst s;refine⟨λt d=>⟨r.val,?_,aa ((zV rfl).symm.trans d)▸g⟩,λd=>nn (d.symm.trans (zV rfl))⟩;exact congrArg (λu:Option c7=>match u with|some r=>Z (Z r.val)|D=>if(r::m).any (·.refKey)then D else Z D) (jN (p:=λv:c7=>v.key.isStr (i e)) ((w_ f).trans (beq_self_eq_true _)))
  ·have w:gJ (i p) (r::m)=gJ (i p) m:=by
    have x:r.refKey=ak:=by obtain⟨y,z,A⟩:=r;simp only at f;subst f;rfl
    unfold gJ;rw[jO (p:=λv:c7=>v.key.isStr (i p)) (λB=>s (a _ _ (aG ((w_ f).symm.trans B)))),ik,x,jG]
   exact w.symm▸(CS s (l:=o) (i:=n)).symm▸h
theorem n9.k9{i:Nat->aX}(a:∀j l,i j=i l->j=l){m:ap}(c:VI b m n){o}{p}(d:n9 i b o p):n9 i b (kF (i q) r (.str (i q) s) m o) (Mine.Internal.k9 q n p):=by
 induction d with|c=>exact .b ⟨s,rfl⟩ c .c|@b e o f g p h k d t=>
  refine lp h λu v=>?_;by_cases w:f=q;·refine w▸?_;exact(JA rfl).symm▸(CO ((w_ v).trans (beq_self_eq_true _))).symm▸.b ⟨u,v⟩ c d
  ·exact(JB w).symm▸(CP (λx=>w (a _ _ (aG ((w_ v).symm.trans x))))).symm▸.b ⟨u,v⟩ k t
theorem n9.a(a:n9 i b j l):j.length=l.length:=by induction a with|c=>rfl|b _ _ _ c=>refine ah bE ?_;refine ah ?_ List.length_cons.symm;exact congrArg _ c
theorem n9.looked(a:∀i j,l i=l j->i=j)(c:n9 l b m n):(gJ (l o) m).isSome=I:=by cases d:Mine.Internal.kZ o n with|none=>refine((c.kZ a).2 d).symm▸?_;rfl|some e=>refine ll ((c.kZ a).1 e d) λf g _=>?_;refine g▸?_;rfl
theorem VI.handed(a:VI b w x):handedIn w=I:=by cases a<;>rfl
theorem HS.a(a:HS c b d e){n o s:Nat}(f:d.σ[n]?=Z (.a o s))(g:d.σ[s]?=Z (.b C))(h:b.as[n]?=Z E):∃F G H,b.as[s]?=Z F/\InstAt e.heap E (dA o F) o (Z (dG G H))/\n9 c.nm b G C:=by refine ll (a.k n _ E f h) λF i j=>?_;refine mB (a.k s _ F g i) λG H k l=>?_;exact sa F G H i ⟨j,rfl,rfl,k⟩ l
set_option tactic.hygienic true in
theorem CT(a:∀i j,f.e i j=I->zS c i j){k:V}(l:VI b m k)(n:HS c b d e):kY c g h (getAttr m (c.nm j) o) (vn f k j) VI b d e:=kY.rM (λm=>getAttr m (c.nm j) o) l λp q r=>kY.mR λ_ s=>kY.uf λi t u=>kY.mR λ_ v=>kY.aM λw x=>kY.o λy z=>kY.f λA _=>nZ (n.a (u▸s) (x▸v) r) λB C E F G H=>(a i j A).find.elim λJ L=>ll ((H.kZ c.inj).1 y z) λM N O=>get_value n.K G (plainGet_of (a i j A).plain).1 (findObj_own (a i j A).m L.1 L.2 N) O.handed (PO.g n O)
set_option tactic.hygienic true in
theorem zW(a:∀i j,f.g i j=I->zU c i j){k l:V}(m:VI b n k)(o:VI b p l)(q:HS c b d e)(r:∀s∈lB g,s∉b.as):kY c g h (setAttr n (c.nm j) p) (uj f k j l) (λ_ _ _=>True) b d e:=kY.rM (λn=>setAttr n (c.nm j) p) m λt s u=>kY.mR λ_ v=>kY.uf λi w x=>kY.mR λ_ y=>kY.aM λz A=>kY.f λB _=>nZ (q.a (x▸v) (A▸y) u) λC E F G H J=>lC B λL M=>by obtain⟨N,O,P,Q⟩:=a i j L;exact Jz q.K H rfl N O P Q (J.looked c.inj) (J.a▸iq (of_decide_eq_true M) (by decide)) λR S a0 a3 a4 T U=>have W:MR c b R C (.b (k9 j l z)):=⟨_,_,T,J.k9 c.inj o⟩;⟨(),_,b,rfl,Gr.t q G (λX=>r C X (aH G)) U W,q.t (A▸y) G U W,trivial⟩
end
end
section
structure CC where
 d:List aX
 e:aX->Option V
 c:Nat->Bool
 g:Nat->Bool
 h:Nat->Bool
 sc:List (aX×b8)j:List aX
noncomputable def tp(a:aX):List aX->Nat->Option Nat|[],_=>D|b::c,d=>bif gL a b then Z d else tp a c (d+1)
noncomputable def CC.id(a:CC)(b:aX):Option Nat:=tp b a.d 0
noncomputable def ur:b8->Bool|.local|.cell|.free=>I|_=>ak
noncomputable def xa:b8->Bool|.globalImplicit=>I|_=>ak
theorem zX(a:xa b=I):b=.globalImplicit:=by induction b<;>first|rfl|exact ft a
noncomputable def lG{a b:Type}(c:Option a)(d:a->Option b):Option b:=match c with|some e=>d e|D=>D
noncomputable def pY{a b:Type}(c:Option a)(d:a->Option b)(e:Option b):Option b:=match c with|some f=>d f|D=>e
section
variable{a b d e:Type}{c:Prop}
theorem lR{f:Option a}{g:a->Option b}{h:b}(d:lG f g=Z h)(e:∀i,f=Z i->g i=Z h->c):c:=by induction f with|none=>exact nn d|some i=>exact e i rfl d
theorem qA{f:Option a}{g:a->Option b}{h:Option b}{i:b}(d:pY f g h=Z i)(e:∀j,f=Z j->g j=Z i->c)(k:f=D->h=Z i->c):c:=by induction f with|none=>exact k rfl d|some j=>exact e j rfl d
theorem rK{f g:Option a}{h:a}(b:(bif i then f else g)=Z h)(d:i=I->f=Z h->c)(e:i=ak->g=Z h->c):c:=by induction i with|true=>exact d rfl b|false=>exact e rfl b
@[elab_as_elim]theorem ny{f:a->b}{g:Option a}{h:b}{i:b->Prop}(c:g.map f=Z h)(d:∀j,g=Z j->i (f j)):i h:=by induction g with|none=>exact nn c|some j=>exact aa c▸d j rfl
@[elab_as_elim]theorem o6{f:a->b->d}{g:Option a}{h:Option b}{i:d}{j:d->Prop}(c:mO f g h=Z i)(e:∀k l,g=Z k->h=Z l->j (f k l)):j i:=by induction g with|none=>exact nn c|some k=>induction h with|none=>exact nn c|some l=>exact aa c▸e k l rfl rfl
end
noncomputable def CC.b(a:CC)(b:aX):Option Nat:=lG (a.sc.lookup b) λc=>bif ur c then a.id b else D
noncomputable def CC.i(a:CC)(b:aX):Option V:=lG (a.sc.lookup b) λc=>bif xa c then a.e b else D
theorem CU{a:Type}{b:Prop}[Decidable b]{c:Option a}{d:a}(e:(if b then c else D)=Z d):b/\c=Z d:=by
 by_cases f:b;·exact⟨f,(if_pos f).symm.trans e⟩
 ·exact nn ((if_neg f).symm.trans e)
theorem CC.l{n:CC}(a:n.b o=Z p):(∃r,n.sc.lookup o=Z r/\ur r=I)/\n.id o=Z p:=lR a λr b a=>mI a λc a=>⟨⟨r,b,c⟩,a⟩
theorem CC.m{n:CC}(a:n.sc.lookup o=Z p)(b:ur p=I):n.b o=n.id o:=(congrArg (λc=>lG c λp=>bif ur p then n.id o else D) a).trans (congrArg (λd=>bif d then n.id o else D) b)
theorem CC.q{n:CC}(a:n.i o=Z p):n.sc.lookup o=Z .globalImplicit/\n.e o=Z p:=lR a λ_ b a=>mI a λc a=>⟨zX c▸b,a⟩
noncomputable def CV:List (aX×s_):=[("len",.b),("abs",.abs),("sum",.sum),("min",.min),("divmod",.d),("int",.a),("bool",.h),("bytes",.f),("sorted",.c)]
noncomputable def zY(a:aX):Option s_:=CV.lookup a
noncomputable def CC.l6(a:CC)(b:aX):Option s_:=lG (a.sc.lookup b) λc=>bif xa c then bif(a.e b).isNone then zY b else D else D
noncomputable def CC.f(a:CC)(b:aX)(c:String):Bool:=(a.e b).isNone&&((a.sc.lookup b).any xa&&b==bN c)
noncomputable def lL{a b:Type}(c:a->Option b):List a->Option (List b)|[]=>Z []|d::e=>mO iE (c d) (lL c e)
noncomputable abbrev Vw:=(aX×im)⊕(aj×List aj×im)⊕(aj×aX×im)⊕(List aj×Nat×im)⊕(Const×Nat×im)⊕(Option aj×Option aj×Option aj×im)⊕(UnaryOp×aj×im)⊕(aj×Int×Option aj×im)⊕(List aj×im)
noncomputable def noKw{a b:Type}(c:List a)(d:b):Option b:=match c with|[]=>Z d|_=>D
noncomputable def qB(a:aj):Option Vw:=match a with|.Name b c=>Z (.inl (b,c))|.Call d e f c=>noKw f (.inr (.inl (d,e,c)))|.Attribute g b c=>Z (.inr (.inr (.inl (g,b,c))))|.Tuple h i c=>Z (.inr (.inr (.inr (.inl (h,i,c)))))|.Constant j i c=>Z (.inr (.inr (.inr (.inr (.inl (j,i,c))))))|.Slice k l j c=>Z (.inr (.inr (.inr (.inr (.inr (.inl (k,l,j,c)))))))|.UnaryOp m k c=>Z (.inr (.inr (.inr (.inr (.inr (.inr (.inl (m,k,c))))))))|.FormattedValue k j n c=>Z (.inr (.inr (.inr (.inr (.inr (.inr (.inr (.inl (k,j,n,c)))))))))|.List h c=>Z (.inr (.inr (.inr (.inr (.inr (.inr (.inr (.inr (h,c)))))))))|_=>D
noncomputable def xb:Vw->aj:=fp (λa=>.Name a.1 a.2) (fp (λa=>.Call a.1 a.2.1 [] a.2.2) (fp (λa=>.Attribute a.1 a.2.1 a.2.2) (fp (λa=>.Tuple a.1 a.2.1 a.2.2) (fp (λa=>.Constant a.1 a.2.1 a.2.2) (fp (λa=>.Slice a.1 a.2.1 a.2.2.1 a.2.2.2) (fp (λa=>.UnaryOp a.1 a.2.1 a.2.2) (fp (λa=>.FormattedValue a.1 a.2.1 a.2.2.1 a.2.2.2) λa=>.List a.1 a.2)))))))
theorem CW{a:aj->Prop}(b:a (xb c))(d:Z e=Z c):a (xb e):=aa d▸b
theorem JC{a:aj->Prop}(b:a (xb c))(d):qB d=Z c->a d:=by
 cases d with
 |Name|Attribute|Tuple|Constant|Slice|UnaryOp|FormattedValue|List=>exactλe=>CW b e|Call f g h i=>induction h with|nil=>exactλe=>CW b e|cons=>exact nn
 |_=>exact nn
section
variable{a c d:Type}{b:a}
noncomputable def sl(b:a⊕c):Option a:=Sum.rec Z (λ_=>D) b
noncomputable def sr(b:c->Option d)(e:a⊕c):Option d:=Sum.rec (λ_=>D) b e
noncomputable def Vk(d:a->Option c)(e:a->aj)(f:c->aj):Prop:=∀g b,d g=Z b->e g=f b
theorem sw{e:a⊕c->aj}:Vk sl e λb=>e (.inl b):=λd b f=>by induction d with|inl g=>exact congrArg (λh=>e (.inl h)) (aa f)|inr g=>exact nn f
theorem mx{e:a⊕c->aj}{f:c->Option d}{g:d->aj}(b:Vk f (λh=>e (.inr h)) g):Vk (sr f) e g:=λi j k=>by induction i with|inl h=>exact nn k|inr h=>exact b h j k
theorem JD{e:a->aj}:Vk Z e e:=λc b d=>congrArg e (aa d)
theorem rL{e:Vw->Option a}{f:a->aj}(c:Vk e xb f)(d:lG (qB g) e=Z b):g=f b:=lR d λh i j=>JC (a:=λg=>g=f b) (c h b j) g i
end
noncomputable def oO(a:aj):Option (aX×im):=lG (qB a) sl
noncomputable def ut(a:aj):Option (aj×List aj×im):=lG (qB a) (sr sl)
noncomputable def uu(a:aj):Option (aj×aX×im):=lG (qB a) (sr (sr sl))
noncomputable def zZ(a:aj):Option (List aj×Nat×im):=lG (qB a) (sr (sr (sr sl)))
noncomputable def z6(a:aj):Option (Const×Nat×im):=lG (qB a) (sr (sr (sr (sr sl))))
noncomputable def CX(a:aj):Option (Option aj×Option aj×Option aj×im):=lG (qB a) (sr (sr (sr (sr (sr sl)))))
noncomputable def CY(a:aj):Option (UnaryOp×aj×im):=lG (qB a) (sr (sr (sr (sr (sr (sr sl))))))
noncomputable def CZ(a:aj):Option (aj×Int×Option aj×im):=lG (qB a) (sr (sr (sr (sr (sr (sr (sr sl)))))))
noncomputable def C0(a:aj):Option (List aj×im):=lG (qB a) (sr (sr (sr (sr (sr (sr (sr (sr Z))))))))
theorem o7(a:oO b=Z c):b=.Name c.1 c.2:=(rL sw a:)
theorem vB{a}(b:ut a=Z c):a=.Call c.1 c.2.1 [] c.2.2:=(rL (mx sw) b:)
theorem vC{a}(b:uu a=Z c):a=.Attribute c.1 c.2.1 c.2.2:=(rL (mx (mx sw)) b:)
theorem C1{a}(b:zZ a=Z c):a=.Tuple c.1 c.2.1 c.2.2:=(rL (mx (mx (mx sw))) b:)
theorem C2{a}(b:z6 a=Z c):a=.Constant c.1 c.2.1 c.2.2:=(rL (mx (mx (mx (mx sw)))) b:)
theorem JE{a}(b:CX a=Z c):a=.Slice c.1 c.2.1 c.2.2.1 c.2.2.2:=(rL (mx (mx (mx (mx (mx sw))))) b:)
theorem JF{a}(b:CY a=Z c):a=.UnaryOp c.1 c.2.1 c.2.2:=(rL (mx (mx (mx (mx (mx (mx sw)))))) b:)
theorem JG{a}(b:CZ a=Z c):a=.FormattedValue c.1 c.2.1 c.2.2.1 c.2.2.2:=(rL (mx (mx (mx (mx (mx (mx (mx sw))))))) b:)
theorem JH{a}(b:C0 a=Z c):a=.List c.1 c.2:=(rL (mx (mx (mx (mx (mx (mx (mx (mx JD)))))))) b:)
noncomputable def mF{a:Type}(b:List a):Option a:=match b with|[c]=>Z c|_=>D
theorem qY{a:Type}{b:List a}{c:a}(d:mF b=Z c):b=[c]:=by cases b with|nil=>exact nn d|cons e f=>induction f with|nil=>exact aa d▸rfl|cons=>exact nn d
noncomputable def two{a:Type}(b:List a):Option (a×a):=match b with|[c,d]=>Z (c,d)|_=>D
theorem C3{a:Type}{b:List a}{c:a×a}(d:two b=Z c):b=[c.1,c.2]:=by cases b with|nil=>exact nn d|cons e f=>cases f with|nil=>exact nn d|cons g f=>induction f with|nil=>exact aa d▸rfl|cons=>exact nn d
noncomputable def C4(a:Const):Option aX:=match a with|.str b=>Z b|_=>D
theorem JI(a:C4 b=Z c):b=.str c:=by induction b with|str c=>cases a;rfl|_=>exact nn a
theorem C5{a:Type}{b:Option a}{c:a}(d:(bif e then b else D)=Z c):e=I/\b=Z c:=mI d λf e=>⟨f,e⟩
noncomputable def sy(a:CC)(b:aj):Option Nat:=lG (oO b) λc=>a.b c.1
noncomputable def o8(a:CC)(b:aj):Option (Nat⊕List Nat):=pY (oO b) (λc=>(a.b c.1).map .inl) (lG (zZ b) λd=>(lL (sy a) d.1).map .inr)
theorem xd(a:sy b c=Z d):∃e f,c=.Name e f/\b.b e=Z d:=lR a λg h a=>⟨g.1,g.2,o7 h,a⟩
theorem C6(a:o8 b c=Z d):(∃e f g,c=.Name e f/\b.b e=Z g/\d=.inl g)\/(∃h i f j,c=.Tuple h i f/\lL (sy b) h=Z j/\d=.inr j):=qA a (λ_ k a=>ny a λg l=>.inl ⟨_,_,g,o7 k,l,rfl⟩) λ_ a=>lR a λ_ l a=>ny a λj m=>.inr ⟨_,_,_,j,C1 l,m,rfl⟩
noncomputable def C7(a:aj):Option (aX×List aj):=lG (ut a) λb=>lG (oO b.1) λc=>Z (c.1,b.2.1)
theorem JJ(a:C7 b=Z c):∃d e,b=.Call (.Name c.1 d) c.2 [] e:=lR a λf g a=>lR a λh i a=>⟨h.2,f.2.2,by refine(aa a)▸?_;refine ah (vB g) ?_;exact(o7 i)▸rfl⟩
noncomputable def qC(a:aj->Option ls)(b:CC)(c:Bool)(d:aj):Option (Nat×List ls):=pY (C7 d) (λe=>bif b.f e.1 "range"then(lL a e.2).map λf=>(1,f)else bif b.f e.1 "enumerate"then bif c then lG (mF e.2) λg=>(a g).map λd=>(2,[d])else D else(a d).map λd=>(0,[d])) ((a d).map λd=>(0,[d]))
theorem C8{a:aj->Option ls}{b}(c:qC a b d e=Z f):(∃g,f=(0,[g])/\a e=Z g)\/(∃h i j k l,e=.Call (.Name h i) j [] k/\b.f h "range"=I/\lL a j=Z l/\f=(1,l))\/(∃h i m k g,e=.Call (.Name h i) [m] [] k/\b.f h "enumerate"=I/\d=I/\a m=Z g/\f=(2,[g])):=by
 refine gz λn o=>?_;refine qA c (λp q c=>?_) λ_ c=>ll (t9 c) λg r s=>o (.inl ⟨g,s.symm,r⟩);refine mY (JJ q) λi k t=>?_;refine rK c (λr c=>?_) λ_ c=>rK c (λr c=>?_) λ_ c=>?_;·exact ll (t9 c) λl s u=>o (.inr (.inl ⟨_,i,_,k,l,t,r,s,u.symm⟩))
 ·refine mI c λs c=>lR c λm u c=>?_;exact ll (t9 c) λg v w=>o (.inr (.inr ⟨_,i,m,k,g,qY u▸t,r,s,v,w.symm⟩))
 ·exact ll (t9 c) λg r s=>o (.inl ⟨g,s.symm,r⟩)
noncomputable def pv:aj->Bool|.Tuple ..=>I|_=>ak
noncomputable def C9:Option b8->Bool|some .cell|some .free=>I|_=>ak
noncomputable def C_:aj->List aX|.Name a _=>[a]|_=>[]
noncomputable def oB:aj->List aX|.Name a _=>[a]|.Tuple b _ _=>b.flatMap C_|_=>[]
noncomputable def nU:Option b8->Bool|some .local|some .cell=>I|_=>ak
noncomputable def Da(a:CC)(b:aj)(c:aX)(d:b8):Bool:=match d with|.local|.cell=>(oB b).contains c||a.id c==D|.free=>C9 (a.sc.lookup c)|.globalImplicit=>I|_=>ak
noncomputable def tq(a:CC)(b:aj)(c:kR):Bool:=c.kind==.function&&(oB b).all (λd=>nU (c.names.lookup d))&&c.names.all λe=>c.names.lookup e.1==Z e.2&&Da a b e.1 e.2
noncomputable def rN:aj->Bool|.Call ..=>ak|_=>I
noncomputable def qD{a b c d:Type}(e:a->b->c->d)(f:Option a)(g:Option b)(h:Option c):Option d:=match f with|some i=>mO (e i) g h|D=>D
noncomputable def Db(a:Const):Option V:=match a with|.none=>Z .g|.bool b=>Z (.h b)|.int c=>Z (.a c)|.str d=>Z (.d d.cps.toList)|_=>D
noncomputable def Dc(a:CC)(b:aX):Option ls:=bif b=="__debug__"then D else bif b=="__classdict__"then D else pY (a.b b) (λc=>Z (.b c)) ((a.i b).map .f)
noncomputable def Dd:BoolOp->List ls->ls|.And=>.d|.Or=>.g
noncomputable def De(a:aj->Option ls)(b:CC)(c:List aj):Option ls:=lG (two c) λd=>lG (oO d.2) λe=>bif b.f e.1 "int"then(a d.1).map λf=>.l6 .s [f]else D
noncomputable def Df(a:aj->Option ls)(b:CC)(c:List aj):Option ls:=lG (mF c) λd=>lG (ut d) λe=>lG (oO e.1) λf=>bif b.f f.1 "range"then(lL a e.2.1).map (.l6 .u)else D
noncomputable def gN:V->Option Nat|.i a=>Z a|_=>D
theorem xe(a:gN b=Z c):b=.i c:=by cases b with|i d=>exact aa a▸rfl|_=>exact nn a
noncomputable def Dg(a:aj->Option ls)(b:CC)(c:List aj)(d:Option V):Option ls:=lG d λd=>lG (gN d) λe=>bif b.c e then(lL a c).map (.r e)else bif b.g e then(lL a c).map (.l e)else D
noncomputable def Dh(a:aj->Option ls)(b:CC)(c:aX)(d:List aj):Option ls:=bif c=="__debug__"then D else pY (b.l6 c) (λe=>(lL a d).map (.l6 e)) (bif b.f c "isinstance"then De a b d else bif b.f c "list"then Df a b d else Dg a b d (b.i c))
noncomputable def Di(a:aj->Option ls)(b:CC)(c:aj)(d:List aj)(e:List Keyword)(f:im):Option ls:=bif e.isEmpty then pY (uu c) (λg=>bif rN g.1 then bif g.2.2.endLine==f.line then bif aE (d.length<30)then qD .p (a g.1) (b.id g.2.1) (lL a d)else D else D else D) (lG (oO c) λh=>Dh a b h.1 d)else D
noncomputable def Dj:UnaryOp->Bool|.USub=>I|_=>ak
theorem JK(a:Dj b=I):b=.USub:=by induction b<;>first|rfl|exact ft a
noncomputable def Dl:Const->Bool|.int a=>aE (a=1)|_=>ak
theorem JL(a:Dl b=I):b=.int 1:=by induction b with|int c=>exact congrArg _ (of_decide_eq_true a)|_=>exact ft a
noncomputable def Dm(a:aj):Option Unit:=lG (CY a) λb=>lG (z6 b.2.1) λc=>bif Dj b.1&&Dl c.1 then Z ()else D
noncomputable def Dn(a:aj->Option ls)(b:aj)(c d e:Option aj):Option ls:=match e with
 |D=>match d with|D=>D|some f=>match c with|D=>mO (λg h=>.a g D (Z h)) (a b) (a f)|some i=>qD (λg j h=>.a g (Z j) (Z h)) (a b) (a i) (a f)
 |some k=>lG (Dm k) λ_=>match c with
  |D=>match d with|D=>(a b).map .t|some _=>D
  |some _=>D
noncomputable def Do(a:aj->Option ls)(b c:aj):Option ls:=pY (CX c) (λd=>Dn a b d.1 d.2.1 d.2.2.1) (mO .j (a b) (a c))
noncomputable def Dp(a:CC->aj->Option ls)(b:CC)(c:aj)(d:List Comprehension)(e:kR):Option ls:=lG (mF d) λf=>bif aE (f.is_async=0)&&tq b f.target e then mO (λ(g:Nat×List ls)(h:(Nat⊕List Nat)×ls×List ls)=>.lc h.2.1 h.1 g.1 g.2 h.2.2) (qC (a b) b (pv f.target) f.iter) (qD (λi j k=>(i,j,k)) (o8 {b with sc:=e.names,j:=[]} f.target) (a {b with sc:=e.names,j:=[]} c) (lL (a {b with sc:=e.names,j:=[]}) f.ifs))else D
noncomputable def Dq(a:aj->Option ls)(b:List aj):Option ls:=lG (two b) λc=>lG (CZ c.1) λd=>lG (z6 c.2) λe=>lG (C4 e.1) λf=>bif aE (d.2.1=-1)&&(d.2.2.1.isNone&&aE (f.cps.size<=1000))then(a d.1).map λg=>.v [] g f.cps.toList else D
noncomputable def JM(a:List (Option aj))(b:List aj):Option ls:=match a with
 |[]=>match b with|[]=>Z .i|_=>D
 |_=>D
noncomputable def uv(a:aj):Bool:=(C0 a).any λb=>b.1.isEmpty
theorem z7(a:uv b=I):∃c,b=.List [] c:=ll ((eV _ _).mp a) λd e f=>⟨d.2,(JH e).trans (congrArg (PySem.Expr.List · d.2) (List.isEmpty_iff.mp f))⟩
noncomputable def z8(a:aj->Option ls)(b:aj):Option ls:=bif uv b then Z .h else a b
noncomputable def lc:Nat->CC->aj->Option ls|0,_,_=>D|a+1,b,c=>match c with|.Constant d _ _=>(Db d).map .f|.Name e _=>Dc b e|.BinOp f g h _=>mO (.k g) (lc a b f) (lc a b h)|.UnaryOp g f _=>(lc a b f).map (.un g)|.BoolOp g i _=>(lL (lc a b) i).map (Dd g)|.Compare f j i _=>mO (λe k=>.n e j k) (lc a b f) (lL (lc a b) i)|.IfExp l f h _=>qD .o (lc a b l) (lc a b f) (lc a b h)|.Attribute f m _=>bif rN f then mO .q (lc a b f) (b.id m)else D|.Call n o p q=>Di (lc a b) b n o p q|.Tuple i _ _=>(lL (z8 (lc a b)) i).map .e|.List i _=>(lL (lc a b) i).map .c|.Dict r s _=>JM r s|.Subscript t u _=>Do (lc a b) t u|.ListComp v w x _=>Dp (lc a) b v w x|.JoinedStr s _=>Dq (lc a b) s|_=>D
theorem JN{a b c d:Type}{e:a->b->c->d}{f:Option a}{g:Option b}{h:Option c}{i:d}(j:qD e f g h=Z i):∃k l m,f=Z k/\g=Z l/\h=Z m/\e k l m=i:=by induction f with|none=>exact nn j|some k=>exact lP (ru j) λl m n o p=>u6 k l m rfl n o p
@[elab_as_elim]theorem sC{a b c d:Type}{e:a->b->c->d}{f:Option a}{g:Option b}{h:Option c}{i:d}{j:d->Prop}(k:qD e f g h=Z i)(l:∀m n o,f=Z m->g=Z n->h=Z o->j (e m n o)):j i:=by induction f with|none=>exact nn k|some m=>exact o6 k λn o p q=>l m n o rfl p q
theorem JO(a:Dm b=Z c):∃d e f,b=.UnaryOp .USub (.Constant (.int 1) d e) f:=lR a λg h a=>lR a λi j a=>mI a λk _=>lC k λl m=>⟨i.2.1,i.2.2,g.2.2,by refine ah (JF h) ?_;rw[C2 j,JK l,JL m]⟩
inductive Cm(n:Nat)(c:CC):aj->ls->Prop|g(k p):Cm n c (.Constant .none k p) (.f .g)|h(b k p):Cm n c (.Constant (.bool b) k p) (.f (.h b))|a(i k p):Cm n c (.Constant (.int i) k p) (.f (.a i))|d(s k p):Cm n c (.Constant (.str s) k p) (.f (.d s.cps.toList))|b{x p i}:(x==("__debug__":aX))=ak->(x==("__classdict__":aX))=ak->c.b x=Z i->Cm n c (.Name x p) (.b i)|i{x p d}:(x==("__debug__":aX))=ak->(x==("__classdict__":aX))=ak->c.b x=D->c.i x=Z d->Cm n c (.Name x p) (.f d)|k{a op b p x y}:lc n c a=Z x->lc n c b=Z y->Cm n c (.BinOp a op b p) (.k op x y)|un{op a p x}:lc n c a=Z x->Cm n c (.UnaryOp op a p) (.un op x)|w{op es p ys}:lL (lc n c) es=Z ys->Cm n c (.BoolOp op es p) (Dd op ys)|n{a ops es p x ys}:lc n c a=Z x->lL (lc n c) es=Z ys->Cm n c (.Compare a ops es p) (.n x ops ys)|o{t a b p x y z}:lc n c t=Z x->lc n c a=Z y->lc n c b=Z z->Cm n c (.IfExp t a b p) (.o x y z)|q{a name p x i}:rN a=I->lc n c a=Z x->c.id name=Z i->Cm n c (.Attribute a name p) (.q x i)|p{o name apos args pos x i ys}:rN o=I->(apos.endLine==pos.line)=I->args.length<30->lc n c o=Z x->c.id name=Z i->lL (lc n c) args=Z ys->Cm n c (.Call (.Attribute o name apos) args [] pos) (.p x i ys)|l6{f pf args pos p ys}:(f==("__debug__":aX))=ak->c.l6 f=Z p->lL (lc n c) args=Z ys->Cm n c (.Call (.Name f pf) args [] pos) (.l6 p ys)|s{f pf a t pt pos y}:(f==("__debug__":aX))=ak->c.f f "isinstance"=I->c.f t "int"=I->lc n c a=Z y->Cm n c (.Call (.Name f pf) [a,.Name t pt] [] pos) (.l6 .s [y])|u{f pf r pr as p1 pos ys}:(f==("__debug__":aX))=ak->c.f f "list"=I->c.f r "range"=I->lL (lc n c) as=Z ys->Cm n c (.Call (.Name f pf) [.Call (.Name r pr) as [] p1] [] pos) (.l6 .u ys)|r{f pf args pos a ys}:(f==("__debug__":aX))=ak->c.i f=Z (.i a)->c.c a=I->lL (lc n c) args=Z ys->Cm n c (.Call (.Name f pf) args [] pos) (.r a ys)|l{f pf args pos a ys}:(f==("__debug__":aX))=ak->c.i f=Z (.i a)->c.g a=I->lL (lc n c) args=Z ys->Cm n c (.Call (.Name f pf) args [] pos) (.l a ys)|e{es k p ys}:lL (z8 (lc n c)) es=Z ys->Cm n c (.Tuple es k p) (.e ys)|c{es p ys}:lL (lc n c) es=Z ys->Cm n c (.List es p) (.c ys)|m(p):Cm n c (.Dict [] [] p) .i|x{v h q p x z}:lc n c v=Z x->lc n c h=Z z->Cm n c (.Subscript v (.Slice D (Z h) D q) p) (.a x D (Z z))|y{v l h q p x y z}:lc n c v=Z x->lc n c l=Z y->lc n c h=Z z->Cm n c (.Subscript v (.Slice (Z l) (Z h) D q) p) (.a x (Z y) (Z z))|t{v k p1 p2 q p x}:lc n c v=Z x->Cm n c (.Subscript v (.Slice D D (Z (.UnaryOp .USub (.Constant (.int 1) k p1) p2)) q) p) (.t x)|j{v i p x y}:lc n c v=Z x->lc n c i=Z y->Cm n c (.Subscript v i p) (.j x y)|lc{elt t it ifs scope p i x y z}:tq c t scope=I->qC (lc n c) c (pv t) it=Z i->o8 {c with sc:=scope.names,j:=[]} t=Z x->lc n {c with sc:=scope.names,j:=[]} elt=Z y->lL (lc n {c with sc:=scope.names,j:=[]}) ifs=Z z->Cm n c (.ListComp elt [⟨t,it,ifs,0⟩] scope p) (.lc y x i.1 i.2 z)|v{v q s k p1 p x}:s.cps.size<=1000->lc n c v=Z x->Cm n c (.JoinedStr [.FormattedValue v (-1) D q,.Constant (.str s) k p1] p) (.v [] x s.cps.toList)
section
variable{c:Nat}{a:CC}{b:ls}
theorem JP(d:(Db e).map .f=Z b):Cm c a (.Constant e f g) b:=by refine ny d λh d=>?_;induction e with|none=>exact aa d▸.g _ _|bool i=>exact aa d▸.h _ _ _|int f=>exact aa d▸.a _ _ _|str j=>exact aa d▸.d _ _ _|_=>exact nn d
theorem JQ(d:Dc a e=Z b):Cm c a (.Name e f) b:=t_ d λg d=>t_ d λh d=>qA d (λ_ i d=>aa d▸.b g h i) λi d=>ny d λ_ j=>.i g h i j
theorem JR{d}{e f}(g:(d==("__debug__":aX))=ak)(h:a.f d "isinstance"=I)(i:De (lc c a) a j=Z b):Cm c a (.Call (.Name d e) j [] f) b:=by refine lR i λk l i=>?_;refine lR i λm n i=>?_;refine mI i λo i=>?_;refine ny i λp q=>?_;refine(C3 l)▸?_;refine(o7 n)▸?_;exact .s g h o q
theorem JS{d}{e f}(g:(d==("__debug__":aX))=ak)(h:a.f d "list"=I)(i:Df (lc c a) a j=Z b):Cm c a (.Call (.Name d e) j [] f) b:=by refine lR i λk l i=>?_;refine lR i λm n i=>?_;refine lR i λo p i=>?_;refine mI i λq i=>?_;refine ny i λr s=>?_;refine(qY l)▸?_;refine(vB n)▸?_;refine(o7 p)▸?_;exact .u g h q s
theorem JT(d:(e==("__debug__":aX))=ak)(f:Dg (lc c a) a g (a.i e)=Z b):Cm c a (.Call (.Name e h) g [] i) b:=lR f λj k f=>lR f λl m f=>by replace k:=k.trans (congrArg Z (xe m));exact rK f (λn f=>ny f λo p=>.r d k n p) λ_ f=>mI f λn f=>ny f λo p=>.l d k n p
theorem JU(d:Dh (lc c a) a e f=Z b):Cm c a (.Call (.Name e g) f [] h) b:=t_ d λi d=>qA d (λj k d=>ny d λl m=>.l6 i k m) λ_ d=>rK d (λn d=>JR i n d) λ_ d=>rK d (λo d=>JS i o d) λ_ d=>JT i d
theorem JV(d:Di (lc c a) a e f g h=Z b):Cm c a (.Call e f g h) b:=by refine mI d λi d=>?_;refine(List.isEmpty_iff.mp i)▸?_;refine qA d (λj k d=>?_) λ_ d=>lR d λ_ l d=>(o7 l)▸JU d;refine(vC k)▸?_;exact mI d λm d=>mI d λn d=>mI d λo d=>sC d λp q r s t u=>.p m n (of_decide_eq_true o) s t u
theorem JW{d e f}(g:Dn (lc c a) h d e f=Z b):Cm c a (.Subscript h (.Slice d e f i) j) b:=by
 induction f with
 |none=>induction e with|none=>exact nn g|some k=>induction d with|none=>refine o6 g λl m n o=>?_;exact .x n o|some p=>refine sC g λl q m n o r=>?_;exact .y n o r
 |some s=>refine lR g λ_ t g=>?_;refine yQ (JO t) λu v w x=>?_;refine x▸?_;induction d with|some _=>exact nn g|none=>induction e with|some _=>exact nn g|none=>refine ny g λl n=>?_;exact .t n
theorem JX(d:Do (lc c a) e f=Z b):Cm c a (.Subscript e f g) b:=qA d (λ_ h d=>(JE h)▸JW d) λ_ d=>o6 d λi j k l=>.j k l
theorem JY{d}{e}{f}{g}(h:Dp (lc c) a d e f=Z b):Cm c a (.ListComp d e f g) b:=by refine lR h λi j h=>(qY j)▸?_;obtain⟨k,l,m,n⟩:=i;refine mI h λo p=>lC o λq r=>?_;refine lP (ru p) λs t u v w=>?_;refine w▸?_;refine tX (JN v) λx y z A B C w=>?_;refine w▸?_;exact(of_decide_eq_true q:n=0)▸.lc r u A B C
theorem JZ{d}{e}(f:Dq (lc c a) d=Z b):Cm c a (.JoinedStr d e) b:=by refine gz λg h=>?_;refine lR f λi j f=>?_;refine lR f λk l f=>?_;refine lR f λm n f=>?_;refine lR f λo p f=>?_;refine mI f λq f=>?_;refine lC q λr s=>?_;refine lC s λs t=>?_;refine h ?_;refine ny f λu v=>?_;refine(C3 j)▸?_;refine(JG l)▸?_;rw[C2 n,JI p,of_decide_eq_true r,Option.isNone_iff_eq_none.mp s];exact .v (of_decide_eq_true t) v
theorem vD(d:lc (c+1) a e=Z b):Cm c a e b:=by
 cases e with
 |Constant f g h=>exact JP d|Name i h=>exact JQ d|BinOp j k l h=>refine o6 d λi m n o=>?_;exact .k n o|UnaryOp k j h=>refine ny d λi n=>?_;exact .un n|BoolOp k p h=>refine ny d λi n=>?_;exact .w n|Compare j q p h=>refine o6 d λi m n o=>?_;exact .n n o|IfExp r j l h=>refine sC d λi m s n o t=>?_;exact .o n o t|Attribute j u h=>refine mI d λn d=>?_;refine o6 d λi m o t=>?_;exact .q n o t|Call v w x h=>exact JV d|Tuple p f h=>refine ny d λi n=>?_;exact .e n|List p h=>refine ny d λi n=>?_;exact .c n|Dict y z h=>induction y with
  |nil=>induction z with|nil=>exact aa d▸.m _|cons=>exact nn d
  |cons=>exact nn d
 |Subscript A g h=>exact JX d|ListComp B C E h=>exact JY d|JoinedStr z h=>exact JZ d|_=>exact nn d
end
noncomputable def nK:Nat->aj->List aX|0,_=>[]|a+1,b=>match b with|.Name c _=>[c]|.BinOp d _ e _=>nK a d++nK a e|.UnaryOp _ d _=>nK a d|.BoolOp _ f _=>f.flatMap (nK a)|.Compare d _ f _=>nK a d++f.flatMap (nK a)|.IfExp g d e _=>nK a g++nK a d++nK a e|.Attribute d _ _=>nK a d|.Call h i _ _=>nK a h++i.flatMap (nK a)|.Tuple f _ _=>f.flatMap (nK a)|.List f _=>f.flatMap (nK a)|.Subscript j k _=>nK a j++nK a k|.ListComp l m _ _=>nK a l++m.flatMap λn=>nK a n.iter++n.ifs.flatMap (nK a)|_=>[]
noncomputable def nA(a:CC)(b:List aj):List lT:=let c:=b.flatMap (nK 30);(a.j.filter c.contains).filterMap λd=>(a.id d).map .m
noncomputable def oD:Nat->List fq->List aX|0,_=>[]|a+1,b=>b.flatMap λc=>match c with|.Assign [.Name d _] (.List [] _) _=>[d]|.If _ e f _=>oD a e++oD a f|.For _ _ e _ _=>oD a e|.While _ e _ _=>oD a e|.Try e _ _ _ _=>oD a e|_=>[]
noncomputable def CC.a(a:CC)(b:aX):Option Nat:=if nU (a.sc.lookup b)then a.b b else D
noncomputable def xf:aj->Bool|.Tuple a _ _=>!(a.all (jZ 8))|_=>I
noncomputable def vE:aj->Bool|.ListComp ..=>ak|_=>I
noncomputable def qZ(a:CC)(b:aj):Option (Nat⊕List Nat):=if(oB b).all (λc=>nU (a.sc.lookup c))then o8 a b else D
noncomputable def Dr(a:Option ls):Hn:=match a with|some (.f a)=>.d a|_=>.lX
noncomputable def z9(a:CC)(b:aj):Option (Nat×Nat):=lG (ut b) λc=>lG (uu c.1) λd=>lG (oO d.1) λe=>lG (mF c.2.1) λf=>lG (oO f) λg=>bif d.2.1=="append"&&(d.2.2.endLine==c.2.2.line&&(!(e.1=="__debug__")&&(!(g.1=="__debug__")&&!(g.1=="__classdict__"))))then mO Prod.mk (a.a e.1) (a.b g.1)else D
noncomputable def z_(a:fq):Option ((aj×im)⊕aj×im):=match a with|.Return (some b) c=>Z (.inl (b,c))|.Expr b c=>Z (.inr (b,c))|_=>D
theorem Ds:z_ a=Z b->a=fp (λb=>.Return (Z b.1) b.2) (λb=>.Expr b.1 b.2) b:=by
 cases a with
 |Return b c=>induction b with|some b=>exactλd=>aa d▸rfl|none=>exact nn
 |Expr b c=>exactλd=>aa d▸rfl|_=>exact nn
noncomputable def xg(a:fq):Option aj:=lG (z_ a) λb=>(sl b).map f7
noncomputable def Aa(a:fq):Option aj:=lG (z_ a) (sr λb=>Z b.1)
theorem Dt(a:xg b=Z c):∃d,b=.Return (Z c) d:=lR a λe f a=>by induction e with|inl e=>exact⟨e.2,aa a▸Ds f⟩|inr e=>exact nn a
theorem J0(a:Aa b=Z c):∃d,b=.Expr c d:=lR a λe f a=>by induction e with|inl e=>exact nn a|inr e=>exact⟨e.2,aa a▸Ds f⟩
noncomputable def tt(a:CC)(b:List fq):Hn:=match mF b with
 |some c=>match xg c with|some d=>Dr (lc 30 a d)|D=>match lG (Aa c) (z9 a)with|some e=>.a e.1 e.2|D=>.lX
 |D=>.lX
inductive Ch(c:CC):List fq->Hn->Prop|d{e p v}:lc 30 c e=Z (.f v)->Ch c [.Return (Z e) p] (.d v)|a{x y:aX}{px pa py pc p i j}:(pa.endLine==pc.line)=I->(x==("__debug__":aX))=ak->(y==("__debug__":aX))=ak->(y==("__classdict__":aX))=ak->c.a x=Z i->c.b y=Z j->Ch c [.Expr (.Call (.Attribute (.Name x px) "append" pa) [.Name y py] [] pc) p] (.a i j)|lX(hb):Ch c hb .lX
theorem pZ(a:(!b)=I):b=ak:=(dZ b).mp a
theorem Dv(a:b=c)(d:e=f):PySem.Expr.Call b e [] g=.Call c f [] g:=a▸d▸rfl
theorem Dw(a:b=c)(d:e=f):jo b e g=.Attribute c f g:=a▸d▸rfl
theorem J1{a}{b}(c:z9 a b=Z d):Ch a [.Expr b e] (.a d.1 d.2):=lR c λf g c=>lR c λh i c=>lR c λj k c=>lR c λl m c=>lR c λn o c=>mI c λp c=>lC p λq p=>lC p λr p=>lC p λs p=>lC p λt u=>by refine lP (ru c) λv w x y z=>?_;refine z▸(vB g).trans (Dv ((vC i).trans (Dw (o7 k) (aG q))) ((qY m).trans (congrArg (λl=>[l]) (o7 o))))▸?_;exact .a r (pZ s) (pZ t) (pZ u) x y
theorem Dx(a)(b):Ch a b (tt a b):=by
 unfold tt;cases c:mF b with|none=>exact .lX _|some d=>
  refine(qY c).symm▸?_;dsimp only;cases e:xg d with
  |some f=>refine lp (Dt e) λg h=>h.symm▸?_;show Ch a _ (Dr (lc 30 a f));cases i:lc 30 a f with|none=>exact .lX _|some j=>cases j with|f f=>exact .d i|_=>exact .lX _
  |none=>cases i:lG (Aa d) (z9 a)with|none=>exact .lX _|some k=>exact lR i λf l m=>lp (J0 l) λg h=>h▸J1 m
noncomputable def qE(a:gq):Option aj×Option aX×List fq×im:=match a with|.ExceptHandler b c d e=>(b,c,d,e)
theorem Dy(a:gq):a=.ExceptHandler (qE a).1 (qE a).2.1 (qE a).2.2.1 (qE a).2.2.2:=by cases a;rfl
noncomputable def vF(a:CC)(b:gq):Option (Nat×Hn):=bif(qE b).2.1.isNone then lG (qE b).1 λc=>lG (oO c) λd=>bif d.1=="__debug__"then D else lG (a.i d.1) λe=>(gN e).map λf=>(f,tt a (qE b).2.2.1)else D
theorem J2(a:vF b c=Z d):∃e f g h,c=.ExceptHandler (Z (.Name e f)) D g h/\b.i e=Z (.i d.1)/\(e==("__debug__":aX))=ak/\d.2=tt b g:=mI a λi a=>lR a λj k a=>lR a λe l a=>t_ a λm a=>lR a λn o a=>ny a λp q=>Ie e.1 e.2 _ _ ((Dy c).trans (by rw[k,o7 l,Option.isNone_iff_eq_none.mp i])) (xe q▸o) m rfl
noncomputable def Dz(a:Option (Nat⊕List Nat)):Option (List Nat):=match a with|some (.inr b)=>Z b|_=>D
theorem J3(a:Dz b=Z c):b=Z (.inr c):=by induction b with|none=>exact nn a|some b=>induction b with|inl=>exact nn a|inr=>exact aa a▸rfl
noncomputable def DA(a:CC)(b c:aj):Option (List lT):=match b with|.Name d _=>bif uv c then(bif a.j.contains d then(a.a d).map λe=>[.r e]else D)else mO (λe f=>nA a [c]++[.f e f]) (a.a d) (lc 30 a c)|.Tuple g h i=>bif xf c then mO (λj f=>nA a [c]++[.c j f]) (Dz (qZ a (.Tuple g h i))) (lc 30 a c)else Z [.lX]|.Attribute k l _=>bif uv c then mO (λd e=>[.i d e .h]) (lc 30 a k) (a.id l)else qD (λd e f=>nA a [k,c]++[.i d e f]) (lc 30 a k) (a.id l) (lc 30 a c)|.Subscript k e _=>qD (λd m f=>nA a [k,e,c]++[.n d m f]) (lc 30 a k) (lc 30 a e) (lc 30 a c)|_=>D
noncomputable def DB(a:CC)(b:aj)(c:gI)(d:aj):Option (List lT):=pY (oO b) (λe=>mO (λf g=>nA a [d]++[.p f c g]) (a.a e.1) (lc 30 a d)) (pY (uu b) (λh=>qD (λe f g=>nA a [h.1,d]++[.q e f c g]) (lc 30 a h.1) (a.id h.2.1) (lc 30 a d)) (Z [.lX]))
noncomputable def DC(a:CC)(b:aj):Option (aX×aX×im×aj×im×im):=lG (ut b) λc=>lG (uu c.1) λd=>lG (oO d.1) λe=>bif a.j.contains e.1 then lG (mF c.2.1) λf=>Z (e.1,d.2.1,d.2.2,f,c.2.2,e.2)else D
theorem J4{a}{b}(c:DC a b=Z d):b=.Call (.Attribute (.Name d.1 d.2.2.2.2.2) d.2.1 d.2.2.1) [d.2.2.2.1] [] d.2.2.2.2.1:=lR c λe f c=>lR c λg h c=>lR c λi j c=>mI c λ_ c=>lR c λk l c=>aa c▸(vB f).trans (Dv ((vC h).trans (Dw (o7 j) rfl)) (qY l))
noncomputable def DD(a:CC)(b:aj):Option (List lT):=pY (DC a b) (λc=>bif c.2.2.1.endLine==c.2.2.2.2.1.line then bif c.1=="__debug__"then D else bif c.2.1=="append"then mO (λd e=>[.j d e]) (a.a c.1) (lc 30 a c.2.2.2.1)else bif c.2.1=="extend"then mO (λd e=>[.o d e]) (a.a c.1) (lc 30 a c.2.2.2.1)else D else D) (bif vE b then(lc 30 a b).map λe=>nA a [b]++[.g e]else D)
noncomputable def xh(a:CC)(b c:Option aj):Option (Nat×List ls):=bif c.isNone then lG b λd=>lG (ut d) λe=>lG (oO e.1) λf=>bif f.1=="__debug__"then D else lG (a.i f.1) λg=>lG (gN g) λh=>bif a.h h then(lL (lc 30 a) e.2.1).map λi=>(h,i)else D else D
noncomputable def DE(a:fq):Option (aj×Nat×aX×im×im×im×im×aX):=lG (xg a) λb=>lG (zZ b) λc=>lG (mF c.1) λd=>lG (uu d) λe=>lG (oO e.1) λf=>Z (b,c.2.1,f.1,f.2,e.2.2,c.2.2,c.2.2,e.2.1)
theorem J5{a}{b:aj×Nat×aX×im×im×im×im×aX}(c:DE a=Z b):∃d,a=.Return (Z (.Tuple [.Attribute (.Name b.2.2.1 b.2.2.2.1) b.2.2.2.2.2.2.2 b.2.2.2.2.1] b.2.1 b.2.2.2.2.2.1)) d:=lR c λe f c=>lR c λg h c=>lR c λi j c=>lR c λk l c=>lR c λm n c=>(Dt f).imp λo f=>aa c▸f.trans (congrArg (λe=>Stmt.Return (Z e) o) ((C1 h).trans (congrArg (λp=>PySem.Expr.Tuple p g.2.1 g.2.2) ((qY j).trans (congrArg (λi=>[i]) ((vC l).trans (congrArg (λq=>jo q k.2.1 k.2.2) (o7 n))))))))
noncomputable def DF(a:CC)(b:List gq):Option Nat:=lG (mF b) λc=>lG (qE c).1 λd=>lG (qE c).2.1 λe=>lG (oO d) λf=>lG (mF (qE c).2.2.1) λg=>lG (DE g) λh=>bif e==h.2.2.1&&(h.2.2.2.2.2.2.2=="cause"&&(!(f.1=="__debug__")&&(!(e=="__debug__")&&a.sc.lookup e==Z .local)))then lG (a.i f.1) gN else D
theorem J6(a:b=c)(d:e=f)(g:h=i):ExceptHandler.ExceptHandler b e h j=.ExceptHandler c f i j:=a▸d▸g▸rfl
theorem J7{a:CC}{b}(c:DF a b=Z d):∃(e f:aX)(g h i j k l:im)(m:Nat),b=[.ExceptHandler (Z (.Name e g)) (Z f) [.Return (Z (.Tuple [.Attribute (.Name f h) "cause" i] m j)) k] l]/\a.i e=Z (.i d)/\(e==("__debug__":aX))=ak/\(f==("__debug__":aX))=ak/\a.sc.lookup f=Z .local:=gz λn o=>lR c λp q c=>lR c λr s c=>lR c λf t c=>lR c λu v c=>lR c λw x c=>lR c λy z c=>mI c λA c=>lC A λB A=>lC A λC A=>lC A λE A=>lC A λF G=>lR c λ_ H J=>lp (J5 z) λk L=>o ⟨u.1,f,u.2,y.2.2.2.1,y.2.2.2.2.1,y.2.2.2.2.2.1,k,(qE p).2.2.2,y.2.1,(qY q).trans (congrArg (λc=>[c]) ((Dy p).trans (J6 (s.trans (congrArg Z (o7 v))) t ((qY x).trans (congrArg (λw=>[w]) ((aG C:y.2.2.2.2.2.2.2="cause")▸(aG B:f=y.2.2.1)▸L)))))),xe J▸H,pZ E,pZ F,aG G⟩
noncomputable def DG(a:Option (Nat×List ls)):Option (List lT):=match a with|some b=>Z [.b b.1 b.2]|D=>Z [.lX]
noncomputable def DH(a:CC)(b:Option (List lT))(c:List gq):Option (List lT):=pY (DF a c) (λd=>b.map λb=>[.s b d]) (match c with|e::f=>pY (mO (λb g=>[.l b g]) b (lL (vF a) (e::f))) Z (Z [.lX])|[]=>D)
mutual
noncomputable def vG:Nat->CC->fq->Option (List lT)|0,_,_=>D|n+1,c,s=>match s with
 |.Assign ts v _=>lG (mF ts) λt=>DA c t v|.AugAssign t op v _=>DB c t op v|.Expr v _=>DD c v|.If t a b _=>qD (λx y z=>nA c [t]++[.k x y z]) (lc 30 c t) (mK n c a) (mK n c b)|.While t b els _=>bif els.isEmpty then mO (λx y=>[.a x y]) (lc 30 c t) (mK n c b)else D|.For t it b els _=>bif els.isEmpty then qD (λx(i:Nat×List ls)y=>nA c [it]++[.h x i.1 i.2 y]) (qZ c t) (qC (lc 30 c) c (pv t) it) (mK n c b)else D|.Return v _=>match v with|some v=>(lc 30 c v).map λe=>nA c [v]++[.d e]|D=>Z [.o0]
 |.Continue _=>Z [.e]|.Raise ex cause _=>DG (xh c ex cause)|.Try b hs els fin _=>bif els.isEmpty&&fin.isEmpty then DH c (mK n c b) hs else D|_=>D
noncomputable def mK:Nat->CC->List fq->Option (List lT)|0,_,_=>D|n+1,c,[]=>Z []|n+1,c,s::r=>mO (·++·) (vG n c s) (mK n c r)end
inductive Cs(n:Nat)(c:CC):fq->List lT->Prop|b{x pt q p i}:c.a x=Z i->Cs n c (.Assign [.Name x pt] (.List [] q) p) [.r i]|f{x pt v p i e}:c.a x=Z i->lc 30 c v=Z e->Cs n c (.Assign [.Name x pt] v p) (nA c [v]++[.f i e])|c{ts k pt v p xs e}:xf v=I->qZ c (.Tuple ts k pt)=Z (.inr xs)->lc 30 c v=Z e->Cs n c (.Assign [.Tuple ts k pt] v p) (nA c [v]++[.c xs e])|m{o name pt q p x i}:lc 30 c o=Z x->c.id name=Z i->Cs n c (.Assign [.Attribute o name pt] (.List [] q) p) [.i x i .h]|i{o name pt v p x i e}:lc 30 c o=Z x->c.id name=Z i->lc 30 c v=Z e->Cs n c (.Assign [.Attribute o name pt] v p) (nA c [o,v]++[.i x i e])|n{o i pt v p x y e}:lc 30 c o=Z x->lc 30 c i=Z y->lc 30 c v=Z e->Cs n c (.Assign [.Subscript o i pt] v p) (nA c [o,i,v]++[.n x y e])|p{x pt op v p i e}:c.a x=Z i->lc 30 c v=Z e->Cs n c (.AugAssign (.Name x pt) op v p) (nA c [v]++[.p i op e])|q{o name pt op v p x i e}:lc 30 c o=Z x->c.id name=Z i->lc 30 c v=Z e->Cs n c (.AugAssign (.Attribute o name pt) op v p) (nA c [o,v]++[.q x i op e])|j{x:aX}{px pa a pc p i e}:(pa.endLine==pc.line)=I->(x==("__debug__":aX))=ak->c.a x=Z i->lc 30 c a=Z e->Cs n c (.Expr (.Call (.Attribute (.Name x px) "append" pa) [a] [] pc) p) [.j i e]|o{x:aX}{px pa a pc p i e}:(pa.endLine==pc.line)=I->(x==("__debug__":aX))=ak->c.a x=Z i->lc 30 c a=Z e->Cs n c (.Expr (.Call (.Attribute (.Name x px) "extend" pa) [a] [] pc) p) [.o i e]|g{v p e}:vE v=I->lc 30 c v=Z e->Cs n c (.Expr v p) (nA c [v]++[.g e])|k{t a b p x y z}:lc 30 c t=Z x->mK n c a=Z y->mK n c b=Z z->Cs n c (.If t a b p) (nA c [t]++[.k x y z])|a{t b p x y}:lc 30 c t=Z x->mK n c b=Z y->Cs n c (.While t b [] p) [.a x y]|h{t it b p x y}{i:Nat×List ls}:qZ c t=Z x->qC (lc 30 c) c (pv t) it=Z i->mK n c b=Z y->Cs n c (.For t it b [] p) (nA c [it]++[.h x i.1 i.2 y])|d{v p e}:lc 30 c v=Z e->Cs n c (.Return (Z v) p) (nA c [v]++[.d e])|o0(p):Cs n c (.Return D p) [.o0]|e(p):Cs n c (.Continue p) [.e]|raise{x:aX}{pn es p pos a irs}:c.i x=Z (.i a)->(x==("__debug__":aX))=ak->c.h a=I->lL (lc 30 c) es=Z irs->Cs n c (.Raise (Z (.Call (.Name x pn) es [] p)) D pos) [.b a irs]|r{b}{xn x:aX}{np p1 p2 p3 p4 p5 p c1 a ss}:c.i xn=Z (.i a)->(xn==("__debug__":aX))=ak->(x==("__debug__":aX))=ak->c.sc.lookup x=Z .local->mK n c b=Z ss->Cs n c (.Try b [.ExceptHandler (Z (.Name xn np)) (Z x) [.Return (Z (.Tuple [.Attribute (.Name x p1) "cause" p2] c1 p3)) p4] p5] [] [] p) [.s ss a]|l{b h hs p ss hh}:mK n c b=Z ss->lL (vF c) (h::hs)=Z hh->Cs n c (.Try b (h::hs) [] [] p) [.l ss hh]|lX(s):Cs n c s [.lX]
section
variable{c:Nat}{a:CC}{b:List lT}
theorem xi(d:Z [lT.lX]=Z b):Cs c a e b:=aa d▸.lX e
theorem J8{d e}{f}(g:DA a d e=Z b):Cs c a (.Assign [d] e f) b:=by
 cases d with|Name h i=>
  refine rK g (λj g=>?_) λ_ g=>?_;·refine lp (z7 j) λk l=>l▸?_;exact mI g λ_ g=>ny g λm n=>.b n
  ·exact o6 g λm o j n=>.f j n|Tuple p q i=>
  refine rK g (λj g=>?_) λ_ g=>xi g;exact o6 g λr o n s=>.c j (J3 n) s|Attribute t u i=>
  refine rK g (λj g=>?_) λ_ g=>?_;·refine lp (z7 j) λk l=>l▸?_;exact o6 g λh m n s=>.m n s
  ·exact sC g λh m o j n s=>.i j n s|Subscript t m i=>exact sC g λh v o j n s=>.n j n s|_=>exact nn g
theorem J9{d e}{f}{g}(h:DB a d f e=Z b):Cs c a (.AugAssign d f e g) b:=qA h (λi j h=>(o7 j)▸o6 h λk l m n=>.p m n) λ_ h=>qA h (λo j h=>(vC j)▸sC h λi k l m n p=>.q m n p) λ_ h=>xi h
theorem J_(d:DD a e=Z b):Cs c a (.Expr e f) b:=by
 refine qA d (λg h d=>?_) λ_ d=>mI d λi d=>ny d λj k=>.g i k;refine mI d λi d=>t_ d λk d=>?_;refine(J4 h)▸?_;refine rK d (λl d=>o6 d λm j n o=>?_) λ_ d=>mI d λl d=>o6 d λm j n o=>?_;·exact(show g.2.1="append"from aG l)▸.j i k n o
 ·exact(show g.2.1="extend"from aG l)▸.o i k n o
theorem Ka(d:xh a e f=Z g):Cs c a (.Raise e f h) [.b g.1 g.2]:=by refine mI d λi d=>lR d λj k d=>lR d λl m d=>lR d λn o d=>t_ d λp d=>lR d λq r d=>lR d λs t d=>mI d λu d=>ny d λb v=>?_;rw[k,vB m,o7 o,Option.isNone_iff_eq_none.mp i];exact .raise (xe t▸r) p u v
theorem Kb(d:DG (xh a e f)=Z b):Cs c a (.Raise e f g) b:=by cases h:xh a e f with|some i=>rw[h]at d;exact aa d▸Ka h|none=>rw[h]at d;exact xi d
theorem Kd(d:DH a (mK c a e) f=Z b):Cs c a (.Try e f [] [] g) b:=by
 refine qA d (λh i d=>?_) λ_ d=>?_;·refine ny d λj k=>?_;refine gz λl m=>?_;obtain⟨n,o,p,q,r,s,t,u,v,rfl,w,x,y,z⟩:=J7 i;refine m ?_;exact .r w x y z k
 ·induction f with|nil=>exact nn d|cons A B=>refine qA d (λo i d=>?_) λ_ d=>xi d;exact aa d▸o6 i λj C k w=>.l k w
theorem DI{d}(e:vG (c+1) a d=Z b):Cs c a d b:=by
 cases d with
 |Assign f g h=>refine lR e λi j e=>?_;refine(qY j)▸?_;exact J8 e|AugAssign i k g h=>exact J9 e|Expr g h=>exact J_ e|If i l m h=>refine sC e λn o p j q r=>?_;exact .k j q r|While i m s h=>refine mI e λt e=>?_;refine o6 e λn o j q=>?_;exact(List.isEmpty_iff.mp t)▸(.a j q)|For i u m s h=>refine mI e λt e=>?_;refine sC e λn v o j q r=>?_;exact(List.isEmpty_iff.mp t)▸(.h j q r)|Return g h=>induction g with|some g=>refine ny e λw j=>?_;exact .d j|none=>exact aa e▸.o0 h
 |Continue h=>exact aa e▸.e h|Raise x y h=>exact Kb e|Try m z s A h=>refine gz λB C=>?_;refine mI e λt e=>?_;refine lC t λj q=>?_;refine C ?_;refine(List.isEmpty_iff.mp j)▸?_;refine(List.isEmpty_iff.mp q).symm▸?_;exact Kd e|_=>exact nn e
end
noncomputable def vH(a:FuncBody):Option (List fq):=match a with|.stmts a=>Z a|_=>D
theorem DJ(a:vH b=Z c):b=.stmts c:=by induction b with|stmts d=>exact aa a▸rfl|_=>exact nn a
noncomputable def Ab(a:CC)(b:dW):Option (List Nat×List lT):=lG (vH b.body) λc=>mO Prod.mk (lL (λ(d:Arg)=>a.id d.arg) b.params.args) (mK 60 {a with sc:=b.scope.names,j:=oD 30 c} c)
end
section
noncomputable def n_(a:Wd)(b:bL)(c:dk)(d:aX)(e:ap):Prop:=(b.kindOf d=Z .local/\b.locals∉a.as/\∃f,c.Ns b.locals f/\f d=Z e)\/((b.kindOf d=Z .cell\/b.kindOf d=Z .free)/\∃g,g∉a.as/\b.cells.lookup d=Z g/\c.IsCell g (Z e))
noncomputable def Rd(a:Wd)(b:CC)(c:bL)(d:Ro)(e:am):Prop:=∀f g h,b.b f=Z g->kZ g d=Z (.a h)->∃i,VI a i h/\n_ a c e.heap f i
noncomputable def Cl(a:Wd)(b:bL)(c:am):Prop:=∀d e,b.cells.lookup d=Z e->e∉a.as/\a.φ e=D/\∃f,c.heap.IsCell e f
section
variable{n:Gd}{p:List bL}{t:aN}{m r:Wd}{S S':MS}{l s:am}{w:PT}{FA:List aS}{u:Nat}
theorem Gr.k(a:Gr FA u m S l r S' s)(b:d∉m.as)(c:d<u)(e:l.heap.get? d=Z o):∃F,s.heap.get? d=Z F/\F.data=o.data:=by
 by_cases f:d∈FA;·refine lp (a.q d f o e) λg h=>?_;exact lQ _ h rfl
 ·exact lQ o (a.l d o b f c e) rfl
theorem Gr.B(a:Gr FA u m S l r S' s)(b:d∉m.as)(c:d<u):d∉r.as:=λe=>by
 refine aB (a.v d e) (λe=>?_) (λe=>?_);·exact b e
 ·exact absurd c (Nat.not_lt.mpr e)
theorem Gr.ns(a:Gr FA u m S l r S' s)(b:d∉m.as)(c:d<u)(e:l.heap.Ns d o):s.heap.Ns d o:=by refine nZ e λf g h i j k=>?_;refine ll (a.k b c i) λn p q=>?_;exact sa n g h p (q.trans j) k
theorem rO(a:b.Ns c d):c<li b:=let⟨_,_,_,e,_⟩:=a;nJ e
theorem n_.d(a:n_ m b l.heap c e)(d:Gr FA (li l.heap) m S l r S' s):n_ r b s.heap c e:=by
 refine aB a (λf=>mj f λg h i=>ll i λj k n=>?_) (λo=>lA o λg p=>mQ p λq t u v=>ll v λw x y=>?_);·exact .inl ⟨g,d.B h (rO k),j,d.ns h (rO k) k,n⟩
 ·have z:=nJ x;refine ll (d.k t z x) λA B C=>?_;exact .inr ⟨g,q,d.B t z,u,A,B,C.trans y⟩
theorem Rd.d(a:Rd m b c e l)(d:Gr FA (li l.heap) m S l r S' s):Rd r b c e s:=λf g h i j=>by refine ll (a f g h i j) λk n o=>?_;exact lQ k (n.k d.le) (o.d d)
theorem Cl.d(a:Cl m b l)(c:Gr FA (li l.heap) m S l r S' s):Cl r b s:=λd e f=>by
 refine gz λg h=>?_;refine mj (a d e f) λi j k=>mB k λn o p q=>?_;have t:=nJ p;refine ll (c.k i t p) λu v w=>?_;refine h ?_;refine⟨c.B i t,?_,n,u,v,w.trans q⟩;cases x:r.φ e with|none=>rfl|some y=>
  refine aB (c.u e y x) (λa=>?_) (λa=>?_);·exact nn (j.symm.trans a)
  ·exact absurd t (Nat.not_lt.mpr a)
structure Ev(p:List bL)(t:aN)(env:bL)(cc:CC):Prop where
 a:env.scope.kind=.function
 sc:∀x,cc.sc.lookup x=Z .globalImplicit->env.kindOf x=Z .globalImplicit
 f:∀x,(cc.sc.lookup x=Z .cell\/cc.sc.lookup x=Z .free)->(env.kindOf x=Z .cell\/env.kindOf x=Z .free)/\∃c,env.cells.lookup x=Z c
 b:∀x y c,env.cells.lookup x=Z c->env.cells.lookup y=Z c->x=y
 e:env.globals=b7
 bi:env.builtins=eM
 d:t.handled=D
 g:t.frames=Z p
structure EC where
 nm:aX
 q:aX
 N:aS
 bs:List ap
 a:List ap
 b:Bool
 sn:List aX
 j:List ap
 c:Bool
 col:Option Bool
 d:Option aS
 e:Option ap
 k1:Option ap
 k2:Option ap
 k3:Option ap
 f:Option ap
noncomputable def EC.o(a:EC)(b:aS)(c:String):jb:=dI a.nm a.q b a.N a.bs a.a a.b a.sn a.j a.c a.col a.d a.e a.k1 a.k2 a.k3 a.f c
structure nh(n:Gd)(cc:CC):Prop where
 g:∀a,cc.g a=I->eF n.K (.ref a)=I
 c:∀a,cc.c a=I->eF n.K (.ref a)=I
 d:∀x i,cc.id x=Z i->n.nm i=x
 e:∀x v,cc.e x=Z v->∃val,n.mg x=Z val/\∀m,VI m val v
 b:∀x,cc.e x=D->x∈(["len","abs","sum","min","divmod","int","bool","bytes","sorted","isinstance","list","range","enumerate"]:List aX)->n.mg x=D
 h:∀a,cc.h a=I->eF n.K (.ref a)=I/\∃(k:EC)(nw:String),n.K.lookup a=Z (k.o a nw)/\(aQ a::k.a).contains (.type "BaseException")=I
structure At(n:Gd)(p:List bL)(cc:CC)(env:bL)(ρ:Ro)(m:Wd)(S:MS)(l:am):Prop where
 H:HS n m S l
 K:mU p m l
 R:Rd m cc env ρ l
 L:Cl m env l
theorem At.d(a:At n p b c f m S l)(d:Gr (lB p) (li l.heap) m S l r S' s)(e:HS n r S' s):At n p b c f r S' s:=⟨e,a.K.d d λ_ g=>a.K.lt g,a.R.d d,a.L.d d⟩
theorem At.e(a:At n p b c f m S l):∀g∈lB p,g∉m.as:=λg d=>by refine r9 (a.K.at d) λe _ _ _ h=>?_;exact h
theorem vJ{a}(b:c.scope.kind=.function)(d:n_ m c l.heap e f)(g:(e==("__classdict__":aX))=ak\/c.kindOf e≠Z .free)(h:Q f l):az a t (loadName c e) Q i l:=by refine aB d (λj=>mj j λk _ j=>ll j λn o p=>wpAny_loadName_local b k o p h) λj=>lA j λk j=>mQ j λq _ r s=>aB k (λk=>wpAny_loadName_cell b k r s h) λk=>aB g (λg=>wpAny_loadName_free b k r s h g) λg=>absurd k g
theorem Ke(a:nh n b)(c:Ev p t d b)(e:HS n m S l)(f:Rd m b d g l)(h:b.b i=Z j)(k:(i==("__debug__":aX))=ak)(o:(i==("__classdict__":aX))=ak)(q:kZ j g=Z (.a v)):kY n p t (bu (.Name i x) d) (M.pure v) VI m S l:=λ_=>by refine ll (f i j v h q) λr s u=>?_;exact iP (vJ c.a u (.inl o) (PO.a e s)) k
theorem Kf(a:nh n b)(c:Ev p t d b)(e:HS n m S l)(f:b.i g=Z h)(i:(g==("__debug__":aX))=ak):kY n p t (bu (.Name g j) d) (M.pure h) VI m S l:=λ_=>by refine lA (CC.q f) λk f=>ll (a.e _ _ f) λo q r=>?_;exact c_ c.a (c.sc g k:d.kindOf g=Z .globalImplicit) (gi (by refine c.e▸?_;exact n.hg.keeps e.v) q (PO.a e (r m))) i
theorem uw(a:nh n b)(c:Ev p t d b)(e:HS n m S l)(f:b.sc.lookup g=Z .globalImplicit)(h:b.e g=D)(i:g∈(["len","abs","sum","min","divmod","int","bool","bytes","sorted","isinstance","list","range","enumerate"]:List aX))(j:fK g=Z k)(o:g≠"__name__")(q:(g==("__debug__":aX))=ak)(r:Q k l):az (aC n.a n.w) t (bu (.Name g v) d) Q x l:=by exact c_ c.a (c.sc g f:d.kindOf g=Z .globalImplicit) (loadGlobal_builtin (by refine c.e▸?_;exact n.hg.keeps e.v) (a.b g h i) (by refine c.bi▸?_;exact n.hb.keeps e.v) ((n.boot g o).trans j) r) q
end
noncomputable def ux(a:Gd)(b:PT)(c:Nat):Prop:=∀{d:aj}{e:ls}{f:CC}{g:bL}{h:aN}{i:List bL}{j:Wd}{k:MS}{l:am}{m:Ro}{n:Nat},lc n f d=Z e->nh a f->Ev i h g f->h.depth+c<=990->h.units+8*c<=9000->At a i f g m j k l->kY a i h (bu d g) ((kX b c).ev m e) VI j k l
noncomputable def vK(a:Gd)(b:PT)(c:Nat):Prop:=∀{d:aj}{e:ls}{f:CC}{g:bL}{h:aN}{i:List bL}{j:Wd}{k:MS}{l:am}{m:Ro}{n:Nat},lc n f d=Z e->nh a f->Ev i h g f->h.depth+c<=990->h.units+8*c<=9000->At a i f g m j k l->kY a i h (isTrue d g (bu d g)) ((kX b c).b m e) (λ_ o p=>o=p) j k l
set_option backward.match.sparseCases true in
noncomputable def CR(a:Gd)(b:List bL)(c:Wd)(d:MS)(e:am)(f:R V):ek->am->Prop:=λg h=>match g with|.ok (.ret i)=>PO a b VI c d e f i h|.ok _=>False|.error j=>PE a b c d e f j h
noncomputable def rP(a:Gd)(b:PT)(c:Nat):Prop:=∀{d:Nat}{e:List ap}{f:List V}{g:aN}{h:List bL}{i:Wd}{j:MS}{k:am},lx i e f->g.handled=D->g.frames=Z h->g.depth+c<=990->g.units+8*c<=9000->HS a i j k->mU h i k->(kX b c).l d f j≠.b->dY (aC a.a a.w) g (.call (.ref d) ⟨e,[]⟩) (CR a h i j k ((kX b c).l d f j)) k
theorem rP.l(a:rP b c d)(e:lx f g h)(i:j.handled=D)(k:j.frames=Z m)(l:j.depth+d<=990)(n:j.units+8*d<=9000)(o:HS b f p q)(r:mU m f q):kY b m j (bI (.ref s) g) ((kX c d).l s h) VI f p q:=λt=>en (a e i k l n o r t)
section
variable{b:Gd}{h:List bL}{c:aN}{d:Wd}{e:MS}{f:am}{j:PT}{i:Nat}{g:CC}{a:bL}{k:Ro}
set_option tactic.hygienic true in
theorem nB{l m:Type}{n:l->Option m}{o:l}{p:List l}{q:List m}(a:lL n (o::p)=Z q):∃r s,n o=Z r/\lL n p=Z s/\q=r::s:=lP (ru a) λr q b c d=>mh r q b c d.symm
theorem oh{l m:Type}{n:l->Option m}{o:List m}(a:lL n []=Z o):o=[]:=by cases a;rfl
theorem rQ(b:lc l g m=Z n):∀o,bh (m::o) a=(ak,bu m a)::bh o a:=by intro o;cases l with|zero=>exact nn b|succ l=>cases m<;>first|rfl|exact nn b
theorem Kg(l:ux b j i)(m:nh b g)(n:Ev h c a g)(o:c.depth+i<=990)(p:c.units+8*i<=9000){q}{r}:∀{s:List aj}{t:List ls}{d:Wd}{e:MS}{f:am},lL (lc q g) s=Z t->At b h g a k d e f->kY b h c (di (bS r (bh s a))) (mw (kX j i) k t) lx d e f:=by intro u;induction u with|nil=>intro t d e f v w;refine(oh v)▸?_;exact kY.pure w.H .c|cons x s y=>intro t d e f v w;refine lP (nB v) λz A B C E=>?_;refine E▸?_;refine((by rw[rQ B];rfl:bS r (bh (x::s) a)=(ak,bu x a)::bS r (bh s a)))▸?_;refine((by rfl:di ((ak,bu x a)::bS r (bh s a))=(bu x a>>=λF=>(ba [F]>>=λG=>bF G (di (bS r (bh s a)))>>=λH=>ba (G++H)))))▸?_;refine kY.bind (l B m n o p w) λF J L M N O P Q=>?_;refine(kY.bind (kY.a (y C (w.d O P))) λH R S T U V W X=>?_:kY b h c (bF [F] (di (bS r (bh s a)))>>=λH=>ba ([F]++H)) _ _ _ _ _);exact kY.pure W (.b (Q.k V.le) X)
end
end
section
section
variable{d:Gd}{f:List bL}{g:aN}{a:Wd}{c:MS}{b:am}{h:PT}
theorem PO.e{i j:Type}{k:Wd->i->j->Prop}{l:i}{m:j}(e:HS d a c b)(g:∀n o,b.heap.get? n=Z o->p.get? n=Z o)(h:li b.heap<=li p)(q:p.get? n=Z o)(r:li b.heap<=n)(s:a.le (a.b n o)->(a.b n o).φ n=Z o->k (a.b n o) l m):PO d f k a c b (.ok m c) l {b with heap:=p,toks:=u}:=PO.made e g h q r (s (e.y r) (Wd.c _ _ _))
theorem DK(b:IntsAre e i):lx a e (i.map V.a):=by induction b with|nil=>exact .c|cons c d _ f=>exact .b (.a c d) f
theorem VI.t(e:HS d a c b){w:List ap}(f:a.φ x=Z y)(g:y.cls=.type "list")(h:y.data=.seq w.toArray z):b.heap.IsList x w.toArray:=⟨y,e.j _ _ f,g,z,h⟩
theorem MR.p(b:MR d a e i (.c j)):∃l:List ap,e.IsList i l.toArray/\lx a l j:=by refine ll b λl c f=>?_;exact lQ l c.isList f
theorem DL(e:HS d a c b)(f:VI a i (.c j)\/∃k,VI a i (.b k)/\c.σ[k]?=Z (.c j)):∃l m,i=.ref l/\b.heap.IsList l m.toArray/\lx a m j:=by
 refine aB f (λf=>?_) (λg=>ll g λk f h=>?_);·obtain⟨l,n,o,p,rfl,q,r,s,t⟩:=f.l;exact mh l o rfl (VI.t e q r s) t
 ·refine ll f.n λl u v=>?_;refine u▸?_;refine ll ((e.k k _ l h v).p) λm w x=>?_;exact mh l m rfl w x
theorem DM(e:HS d a c b)(h:VI a i (.c j)\/∃k,VI a i (.b k)/\c.σ[k]?=Z (.c j))(l:j.length<=mE):az (aC d.a d.w) g (bI (.builtin "len") [i]) (PO d f VI a c b (.ok (.a j.length) c)) (PE d f a c b (.ok (V.a j.length) c)) b:=by refine lP (DL e h) λm n o p q=>?_;refine o▸?_;refine call_len_list p (by rw[aR,q.a];unfold mE at l;exact(Y [] [j.length] ⟨[1],[],[.L .a (.k 1048576)],.t (.n .a) (.k 9223372036854775808)⟩) l) ?_;rw[aR,q.a];exact PO.g e (.a _ _)
theorem DN(e:Array UInt8):(e.toList.map cG).length=e.size:=by simp
theorem kY.ug(e:∀m,c.σ[s]?=Z (.c m)->kY d f g t (u m) VI a c b):kY d f g t (ug s u) VI a c b:=kY.mR λ_ h=>kY.lM λm i=>e m (i▸h)
theorem kY.k{m:Type}{s:Option m}{t:m->M V}(e:∀u,s=Z u->kY d f g v (t u) VI a c b):kY d f g v (M.bind (M.c s) t) VI a c b:=by induction s with|none=>exact kY.b|some u=>exact e u rfl
theorem kY.oL(m:ap->gF ap)(e:VI a s t)(h:∀u v,kY d f g (m (.int u v)) (w u) VI a c b):kY d f g (m s) (oL w t) VI a c b:=by cases t with|a u=>refine lp e.j λv i=>?_;subst i;exact h u v|_=>exact kY.b
theorem kY.sk(m:ap->ap->gF ap)(e:VI a s t)(h:VI a u v)(i:∀w x y z,kY d f g (m (.int w x) (.int y z)) (A w y) VI a c b):kY d f g (m s u) (sk A t v) VI a c b:=kY.oL (m s) h λy z=>kY.oL (λs=>m s (.int y z)) e λw x=>i w x y z
theorem kY.sj(m:ap->gF ap){s:ap}{t}(e:VI a s t)(h:HS d a c b)(i:∀u(v:List ap)w,b.heap.IsList u v.toArray->IntsAre v w->kY d f g (m (.ref u)) (x w) VI a c b):kY d f g (m s) (sj x t) VI a c b:=by cases t with|c j=>obtain⟨u,k,v,l,rfl,n,o,p,q⟩:=e.l;exact kY.k λw r=>i u v w (VI.t h n o p) (vA q r)|_=>exact kY.b
theorem kY.a1(e:lx a m s)(h:∀t u,VI a t u->kY d f g (bI v [t]) (w u) VI a c b):kY d f g (bI v m) (a1 w s) VI a c b:=by cases e with|c=>exact kY.b|b i j=>cases j with|c=>exact h _ _ i|b _ _=>exact kY.b
theorem kY.a2(e:lx a m s)(h:∀t u v w,VI a t u->VI a v w->kY d f g (bI x [t,v]) (y u w) VI a c b):kY d f g (bI x m) (a2 y s) VI a c b:=by cases e with|c=>exact kY.b|b i j=>cases j with|c=>exact kY.b|b k j=>cases j with|c=>exact h _ _ _ _ i k|b _ _=>exact kY.b
theorem Kh(e:VI a i j)(h:HS d a c b):kY d f g (bI (.builtin "len") [i]) (Co j) VI a c b:=by cases j with|c k=>exact kY.f λl _=>DM h (.inl e) l|f m=>refine kY.f λl _=>?_;refine mB e.u λm n o p=>?_;refine o▸?_;subst p;rw[DN]at l;refine call_len_gives (jd b m n) FB.slot_bytes_len FB.entry_bytes_len (FB.args_bytes_len_1 _) (gives_bytes_len m n) (Y [] [m.size] ⟨[1],[],[],.N (.t (.n .a) .o)⟩) (by unfold mE at l;exact(Y [] [m.size] ⟨[1],[],[.L .a (.k 1048576)],.N (.l (.k 9223372036854775808) (.n .a))⟩) l) ?_;rw[DN];exact PO.g h (.a _ _)|b q=>exact kY.ug λr s=>kY.f λl _=>DM h (.inr ⟨q,e,s⟩) l|_=>exact kY.b
theorem Ki(e):(if e<0 then-e else e)=(e.natAbs:Int):=by
 split;·rename_i a;exact(Int.ofNat_natAbs_of_nonpos (bj a)).symm
 ·rename_i a;exact(cX (Int.not_lt.mp a)).symm
theorem Kj(e:VI a i j)(h:HS d a c b):kY d f g (bI (.builtin "abs") [i]) (oL (λk=>M.pure (.a k.natAbs)) j) VI a c b:=kY.oL (λi=>bI (.builtin "abs") [i]) e λk l _=>call_abs_int λi m=>by rw[Ki];exact PO.g h (.a _ _)
theorem Kk{f}(a:g.handled=D)(c:b.heap.IsList f e.toArray)(h:IntsAre e i)(j:∀k l m,(∀n o,b.heap.get? n=Z o->k.get? n=Z o)->Q (.int i.sum m) {b with heap:=k,toks:=l}):az (aC d.a d.w) g (bI (.builtin "sum") [.ref f]) Q p b:=by
 refine lp h.allInts.items λq r=>?_;have s:numsOf e.toArray.toList=i:=by refine ah (congrArg _ (show e.toArray.toList=e from rfl)) ?_;exact h.numsOf
 rw[r]at c s;rw[nums_intItems]at s;refine sum_intListG a c λk l m t=>?_;have:=j k l m t;rw[preSum_eq,List.take_of_length_le (by simp)];rw[s];exact this
theorem Kl(e:g.handled=D){i}(h:VI a i j)(k:HS d a c b):kY d f g (bI (.builtin "sum") [i]) (sj (λl=>M.pure (.a l.sum)) j) VI a c b:=kY.sj (λi=>bI (.builtin "sum") [i]) h k λ_ _ _ m n=>kY.j λ_=>Kk e m n λ_ _ _ o p=>PO.h k o p (.a _ _)
theorem Km(e i)(j k):VI a (if i<e then .int i k else .int e j) (.a (if i<e then i else e)):=by
 split;·exact .a _ _
 ·exact .a _ _
theorem Kn(e:g.handled=D)(h:VI a i j)(k:VI a l m)(n:HS d a c b):kY d f g (bI (.builtin "min") [i,l]) (sk (λo p=>M.pure (.a (if p<o then p else o))) j m) VI a c b:=kY.sk (λi l=>bI (.builtin "min") [i,l]) h k λq r s t=>kY.j λ_=>min_two_ints e λ_ _ u v=>PO.h n u v (Km q s r t)
theorem Ko(e:VI a i j)(h:VI a k l)(m:HS d a c b):kY d f g (bI (.builtin "divmod") [i,k]) (sk (λn o=>if 0<o&&o<1073741824 then M.pure (.e [.a (n/o),.a (n%o)])else M.b) j l) VI a c b:=kY.sk (λi k=>bI (.builtin "divmod") [i,k]) e h λp q r s=>kY.f λt _=>by simp only[aJ,decide_eq_true_eq]at t;refine divmod_int ((Y [r] [] ⟨[1],[],[.A (.t .o .a) (.t .a (.k 1073741824))],.N (.e .a .o)⟩) t) ?_ (.inl (fW (Int.ofNat_lt.mp (by rw[cX (bj t.1)];exact t.2))));refine(fo _ (bj t.1)).symm▸?_;refine(jt _ (bj t.1))▸?_;refine PO.c m rfl λu v=>?_;exact .e v rfl (n:=0) rfl (.b (.a _ _) (.b (.a _ _) .c))
theorem Kq(e:VI a i j)(h:HS d a c b):kY d f g (bI (.builtin "isinstance") [i,.type "int"]) (oL (λ_=>M.pure (.h I)) j) VI a c b:=kY.oL (λi=>bI (.builtin "isinstance") [i,.type "int"]) e λ_ _ _=>IsiPair.int_int (PO.a h (.h _))
theorem Kr(e:VI a i j)(h:HS d a c b):kY d f g (bI (.type "int") [i]) (Cp j) VI a c b:=by cases j with|h k=>exact e.r▸(λ_=>call_int_bool (PO.g h (.a _ _)))|_=>exact kY.b
theorem Ks(e:VI a i j)(h:HS d a c b):kY d f g (bI (.type "bool") [i]) (oL (λk=>M.pure (.h (k !=0))) j) VI a c b:=kY.oL (λi=>bI (.type "bool") [i]) e λ_ _ _=>call_bool_int (PO.a h (.h _))
theorem Kt(a:∀e∈i,0<=e/\e<256):(byteArr i).toList.map cG=i.map iK:=by unfold byteArr;simp only[b_];refine hY λe b=>?_;have:=a e b;refine(ah UInt8.toNat_ofNat' ?_);exact Nat.mod_eq_of_lt ((Int.toNat_lt this.1).mpr this.2)
theorem Ku(e:g.handled=D)(h:VI a i j)(k:HS d a c b):kY d f g (bI (.type "bytes") [i]) (sj (λl=>if l.all (λm=>0<=m&&m<256)&&l.length<=1 then M.pure (.f (l.map iK))else M.b) j) VI a c b:=kY.sj (λi=>bI (.type "bytes") [i]) h k λ_ _ l n o=>kY.f λp=>kY.j λ_=>by simp only[aJ,dB,decide_eq_true_eq]at p;refine call_bytes_ints n o p.1 (by rw[o.length];have:=p.2;refine m5▸?_;exact ao this (by decide)) e λq r s t u=>?_;refine PO.h k t u ?_;refine(Kt p.1)▸?_;exact .f _ _
end
end
section
set_option backward.match.sparseCases true
theorem Ac{a:List Int->Prop}(b:c<=d->a (c::d::e))(f:¬c<=d->a (d::td c e)):a (td c (d::e)):=by
 show a (if c<=d then _ else _);by_cases g:c<=d;·exact(if_pos g).symm▸b g
 ·exact(if_neg g).symm▸f g
theorem Ae(a)(b):(td a b).Perm (a::b):=by induction b with|nil=>exact .refl _|cons c d e=>exact Ac (a:=λb=>b.Perm (a::c::d)) (λ_=>.refl _) λ_=>(e.cons c).trans (.swap a c d)
theorem Af(a):(rA a).Perm a:=by induction a with|nil=>exact .refl _|cons b c d=>exact(Ae b _).trans (d.cons b)
theorem Kv(a)(b):b.Pairwise (·<=·)->(td a b).Pairwise (·<=·):=by
 induction b with|nil=>exactλ_=>dS ..|cons c d e=>
  intro f;have g:=List.pairwise_cons.mp f;refine Ac (a:=λb=>b.Pairwise (·<=·)) (λh=>List.pairwise_cons.mpr ⟨λi j=>?_,f⟩) λh=>List.pairwise_cons.mpr ⟨λi j=>?_,e g.2⟩;·exact aB (List.mem_cons.mp j) (λk=>k▸h) λj=>bx h (g.1 i j)
  ·exact aB (List.mem_cons.mp ((Ae a d).mem_iff.mp j)) (λk=>k▸bj (Int.not_le.mp h)) (g.1 i)
theorem Kw:∀a:List Int,(rA a).Pairwise (·<=·):=by intro b;induction b with|nil=>exact .nil|cons c d e=>exact Kv c _ (e)
theorem Kx(a:b.Perm c)(d:b.Pairwise (·<=·)):b=rA c:=List.Perm.eq_of_pairwise (λ_ _ _ _ e f=>gy e f) d (Kw c) (a.trans (Af c).symm)
inductive oQ(h:dk)(m:Nat):List ap->List (List Int)->Prop|c:oQ h m [] []|b{a:aS}{o:jb}{xs:List ap}{n:Nat}{k:List Int}{vs:List ap}{ks:List (List Int)}:h.get? a=Z o->o.cls=.type "tuple"->o.data=.seq xs.toArray n->IntsAre xs k->k.length=m->oQ h m vs ks->oQ h m (.ref a::vs) (k::ks)
theorem oQ.d(a:∀f g,h.get? f=Z g->g.cls=.type "tuple"->i.get? f=Z g)(b:oQ h j k l):oQ i j k l:=by induction b with|c=>exact .c|b c d e m n _ o=>exact .b (a _ _ c d) d e m n o
theorem oQ.at(b:oQ f g h i):∀j,j<h.length->∃a k l m,h.getD j .none=.ref a/\f.get? a=Z k/\k.data=.seq (jP l) m/\IntsAre l (i.getD j [])/\(i.getD j []).length=g:=by induction b with|c=>exactλj f=>absurd f (gA _)|b c d e j n _ o=>intro p q;induction p with|zero=>exact Ig _ _ _ _ rfl c e j n|succ p=>exact o p (ej q)
theorem oQ.e(a:0<f)(b:oQ g f h i):∃j,KatTups g h j/\j.length=h.length/\∀k∈j,∃l m,k=.int l m:=by
 induction b with|c=>exact pQ ([]) trivial rfl (λ_ g=>by cases g)|@b c d e n o h i p q r l s b t=>
  refine mQ t λj u v w=>?_;induction l with|nil=>exact absurd a (s▸aZ 0)|cons n m l=>
   refine pQ (.int n m::j) (KatTups.cons p q r rfl u) (congrArg (·+1) v) (λk x=>?_);refine aB (List.mem_cons.mp x) (λy=>?_) (λx=>?_);·refine y▸?_;exact tZ n m rfl
   ·exact w k x
section
variable{b:eT}{c:iF}{d:aN}{e:ap->am->Prop}{a:am}
theorem Ky(f)(e:IntsAre g h)(i:IntsAre j k)(l:h.length=k.length)(m:n (qT h k) a):KatLex b c d I ak n (g.zip j) f a:=by
 induction e generalizing j k f with
 |nil=>induction k with|nil=>cases i;exact kat_nil m|cons=>exact nomatch l
 |@cons o p g h e q=>
  induction i with|nil=>exact nomatch l|@cons r s j k i=>
   refine kat_cons (wpAny_eqBool_int ?_);by_cases t:o=r;·have m:n (qT h k) a:=Eq.mp (congrArg (n · a) (if_pos t)) m;refine(beq_iff_eq.mpr t).symm▸?_;exact kat_yes (q (f+1) i (hZ l) m)
   ·have m:n (aE (o<r)) a:=Eq.mp (congrArg (n · a) (if_neg t)) m;refine(beq_eq_false_iff_ne.mpr t).symm▸?_;refine kat_no ?_;induction f with|zero=>exact oneLt_int m|succ f=>exact kat_one _ _ (jc m)
theorem Kz(e:oQ a.heap f g h)(i:j<g.length)(k:l<g.length)(m:n (qT (h.getD j []) (h.getD l [])) a):kas_ask b c d (tuples' I) g j l n a:=by refine BV (e.at j i) λo p q r s t u v w=>?_;refine BV (e.at l k) λx y z A B C E F G=>?_;unfold kas_ask;refine s▸?_;refine B▸?_;refine kat_lt t u C E ?_;refine(decide_eq_false (Nat.not_lt.mpr (bV ((F.length.trans G).trans (v.length.trans w).symm))):aE (q.toArray.size<z.toArray.size)=ak)▸?_;exact Ky 0 v F (w.trans G.symm) m
end
inductive nV(n:Nat){α:Type}:ij α->Prop|d(a:α):nV n (.ret a)|a{i j:Nat}{k:Bool->ij α}:i<n->j<n->(∀b,nV n (k b))->nV n (.ask i j k)
theorem nV.bind{b}{c e:Type}{f:c->ij e}{g:ij c}(a:nV b g)(d:∀h,nV b (f h)):nV b (g.bind f):=by induction a with|d h=>exact d h|a i j _ k=>exact .a i j k
theorem KA{a}{b:Nat->Nat->Bool}{c:Type}{d:c->am->Prop}(e:∀f g h,f<i->g<i->h (b f g) j->kas_ask k l m n a f g h j){o:ij c}(p:nV i o)(q:d (lY b o) j):o.kasWp (kas_ask k l m n a) d j:=by induction p with|d r=>exact q|a s t _ u=>exact e _ _ _ s t (u _ q)
noncomputable def nC(a:Nat)(b:Array Nat):Prop:=0<a/\∀c∈b,c<a
theorem nC.g{a}{b}(c:nC a b)(d):b.getD d 0<a:=by
 by_cases e:d<b.size
 ·have f:b.getD d 0=b[d]:=by simp[il,e]
  exact f.symm▸(c.2 _ (Array.getElem_mem e))
 ·have f:b.getD d 0=0:=by simp[il,e]
  exact f.symm▸c.1
theorem nC.perm(a:nC b c)(d:e.Perm c):nC b e:=⟨a.1,λf g=>a.2 f ((d.mem_iff).mp g)⟩
theorem nC.t{a}{b}(c:nC a b)(d e):nC a (fN b d e):=c.perm (mirror_perm _ _ _ _)
theorem nV.o{b}{c:Type}{e:Prop}[Decidable e]{f g:ij c}(a:nV b f)(d:nV b g):nV b (if e then f else g):=by
 split;·exact a
 ·exact d
theorem DO{a}{b}(c:nC a b):∀d e,nV a (d9 b d e):=by intro f;induction f with|zero=>intro e;exact .d _|succ d g=>intro e;exact .a (c.g _) (c.g _) λh=>.o (.d _) (g _)
inductive nD(n:Nat){α:Type}(P:α->Prop):ij α->Prop|d{a:α}:P a->nD n P (.ret a)|a{i j:Nat}{k:Bool->ij α}:i<n->j<n->(∀b,nD n P (k b))->nD n P (.ask i j k)
theorem nD.bind{c}{e f:Type}{g:e->Prop}{P':f->Prop}{h:e->ij f}{i:ij e}(a:nD c g i)(b:∀j,g j->nD c P' (h j)):nD c P' (i.bind h):=by induction a with|d j=>exact b _ j|a d k _ l=>exact .a d k l
theorem nD.b{c}{e:Type}{f:e->Prop}{g:ij e}(a:nD c f g):nV c g:=by induction a with|d b=>exact .d _|a d h _ i=>exact .a d h i
theorem nD.of{c}{e:Type}{f:ij e}(a:nV c f):nD c (λ_=>True) f:=by induction a with|d b=>exact .d trivial|a d g _ h=>exact .a d g h
theorem nD.o{c}{e:Type}{f:e->Prop}{g:Prop}[Decidable g]{h i:ij e}(a:nD c f h)(b:nD c f i):nD c f (if g then h else i):=by
 split;·exact a
 ·exact b
theorem KB:∀(a:Nat){b:Array Nat}(c d:Nat),nC e b->nD e (λf:Array Nat×Nat×Nat=>nC e f.1) (fa a b c d):=by intro g;induction g with|zero=>intro _ _ _ h;exact .d h|succ a i=>intro b c d h;exact .a (h.g _) (h.g _) λj=>.o (.o (i _ _ (h.t _ _)) (i _ _ h)) (.a (h.g _) (h.g _) λk=>.o (.d h) (i _ _ h))
theorem DQ{a}{b}(c:nC a b)(d e):nD a (λf:Nat×Array Nat=>nC a f.2) (kas_tail3 d e b):=(nD.of (DO (c.t _ _) _ _)).bind λg _=>.d (c.t _ _)
theorem DR{a}{b}(c:nC a b)(d e):nD a (λf:Nat×Array Nat=>nC a f.2) (kas_descPart d e b):=(KB _ _ _ c).bind λf g=>.o (DQ (nC.t g _ _) _ _) (DQ g _ _)
theorem KC{a}{b}(c:nC a b)(d):nD a (λe:Nat×Array Nat=>nC a e.2) (kas_count d b):=(nD.of (DO c _ _)).bind λf _=>.o (.d c) (.o (.a (c.g _) (c.g _) λg=>.o (.d c) (DR (c.t _ _) _ _)) (DR c _ _))
theorem KD{a}{b}(c:nC a b)(d):∀e f g,nV a (ce b d e f g):=by intro h;induction h with|zero=>intro _ _;exact .d _|succ e i=>intro f g;exact .o (.d _) (.a (c.g _) (c.g _) λj=>.o (i _ _) (i _ _))
theorem KF{a}:∀(b:Nat){c:Array Nat}(d:Nat),nC a c->nV a (kas_bin b c d):=by intro e;induction e with|zero=>intro _ _ _;exact .d _|succ b f=>intro c d g;exact(KD g d _ _ _).bind λh=>f _ (g.perm (bubble_perm _ _ _))
theorem KG{a}(b:0<a):nV a (eL a):=((KC (⟨b,λc d=>by simpa using d⟩:nC a (jP (dP a))) a).bind (P':=λ_=>True) λe f=>.o (.of (KF _ _ f)) (.d trivial)).b
section
variable{b:eT}{c:iF}{d:aN}{e:ap->am->Prop}{a:am}
noncomputable def o9(a:List (List Int))(b:List ap):List ap:=if b.length<2 then b else(lY (λc d=>qT (a.getD c []) (a.getD d [])) (eL b.length)).toList.map λc=>b.getD c .none
theorem KH(f:a.heap.get? g=Z (dJ "list" h.toArray a0))(i:0<j)(k:oQ a.heap j h l)(m:h.length<64)(n:o (.done (.ret .none)) {a with heap:=sortedHeap a.heap g h (o9 l h).toArray}):az (aC b c) d (Builtin.«list.sort» ⟨[.ref g],[]⟩) o e a:=by
 rw[list_sort_plain];have p:g<a.heap.objs.size:=bK f;refine af (listItems_at f rfl ?_);refine af (listUpdate_at f rfl ?_);obtain⟨q,r⟩:∃q,(a.heap.update g (cP λ_=>#[])).get? g=Z (dJ "list" #[] q):=⟨_,get?_update_seq f (λ_=>#[])⟩;refine af (seqEpoch_at r rfl ?_);refine af (j0 ?_);refine af (eW ?_);refine aT ?_;have s:∀t u,t≠g->a.heap.get? t=Z u->(((a.heap.update g (cP λ_=>#[])).push (dJ "tuple" h.toArray 0)).push (dJ "list" #[] 0)).get? t=Z u:=λt u v w=>av _ (av _ ((bG _ _ (dT v)).trans w));have x:(((a.heap.update g (cP λ_=>#[])).push (dJ "tuple" h.toArray 0)).push (dJ "list" #[] 0)).get? g=Z (dJ "list" #[] q):=av _ (av _ r);have y:=k.d λt u w z=>s t u (λA=>by rw[A,f]at w;obtain rfl:=aa w;simp at z) w
 have n:o (.done (.ret .none)) {a with heap:=(((a.heap.update g (cP λ_=>#[])).push (dJ "tuple" h.toArray 0)).push (dJ "list" #[] 0)).update g (cP λ_=>(o9 l h).toArray)}:=n;dsimp only;generalize((a.heap.update g (cP λ_=>#[])).push (dJ "tuple" h.toArray 0)).push (dJ "list" #[] 0)=B at x y n⊢;clear s r k f p;have C:∀E:SortSt,(arrOf E).map (·.2)=(o9 l h).toArray->failedOf E=D->(o9 l h).length<64->az (aC b c) d (do
  let F:=(arrOf E).map (·.2)let G:=(←seqEpoch g)!=q
  Builtin.List.listUpdate (.ref g) λ_=>F if let Z w:=failedOf E then rule "list.sort.comparison-raised";throw w
  if G then rule "list.sort.modified";raiseError"ValueError""list modified during sort"
  ret .none) o e {a with heap:=B}:=λE w H J=>by refine af (seqEpoch_at x rfl ?_);refine af (listUpdate_at x rfl ?_ (hsz2:=by refine w▸?_;exact sizeLine_eq▸aR▸((Y [] [(o9 l h).length] ⟨[1],[],[.T .a (.k 64)],.L .a (.p (.k 16777216) .u)⟩) J)));refine H▸?_;simp only[bne_self_eq_false,fj,if_false];refine au ?_;refine w▸?_;exact n
 by_cases L:h.toArray.size<2
 ·rw[if_pos L,if_pos L];refine af (au ?_);refine af (au ?_);have M:o9 l h=h:=by exact(if_pos (L))
  refine C (SortSt.mk' general' (h.toArray.zip h.toArray) #[] 7 D) ?_ rfl (by rw[M];exact m);rw[M];show((pairsOf h).map (·.2))=h.toArray;unfold pairsOf;apply Array.ext_getElem?;intro N;cases w:h[N]?<;>simp[w,Array.zip]
 ·rw[if_neg L,if_neg L];refine mQ (y.e i) λO P Q R=>?_;refine af (kat_kind (T:=.type "int") P ((Y [] [h.length,O.length] ⟨[1,2],[],[.N (.T .a (.k 2)),.E .b .a],.T .o .b⟩) L Q) (λS M=>?_) (by decide) ?_);·refine mY (R S M) λN a3 T=>?_;refine T▸?_;exact(Looks.now:j3 (aC b c) _ (ba (Value.type "int")) (Value.type "int"))
  ·have M:o9 l h=(lY (λN U=>qT (l.getD N []) (l.getD U [])) (eL h.length)).toList.map λN=>h.getD N .none:=by exact(if_neg L)
   refine af (aK (kat_run (Q:=λE V=>V={a with heap:=B}/\(arrOf E).map (·.2)=(o9 l h).toArray/\failedOf E=D/\(o9 l h).length<64) (G:=λW V=>V={a with heap:=B}/\W=lY (λN U=>qT (l.getD N []) (l.getD U [])) (eL h.length)) (ks:=h) (vs:=h) rfl ((Y [] [h.length] ⟨[1],[],[.N (.T .a (.k 2))],.L (.k 2) .a⟩) L) m (λW E V a4 a5 a6 X=>⟨X.1,?_,a6,by rw[M,ay,cF,←X.2,a4];exact m⟩) (KA (λN U a7 a8 a9 b0=>Kz y a8 a9 b0) (KG ((Y [] [h.length] ⟨[1],[],[.N (.T .a (.k 2))],.T .o .a⟩) L)) ⟨rfl,rfl⟩)) (λb1 V b2=>?_) λ_ _ w=>w);·refine ah (kat_snds rfl a5) ?_;exact X.2▸M▸rfl
   ·obtain⟨⟨⟩,E⟩:=b1;refine Ii b2 λb3 b4 b5=>?_;exact C E b3 b4 b5
theorem KI(f:a.heap.IsList g h.toArray)(i:0<j)(k:oQ a.heap j h l)(m:h.length<64)(n:Q (.ref (a.heap.objs.size+1)) {a with heap:=sortedAll a.heap h (o9 l h).toArray}):az (aC b c) d (bI (.builtin "sorted") [.ref g]) Q e a:=by
 refine Calls.call_function_entry kind_sorted plain_sorted entry_sorted (args_sorted1 _) ?_;delta Builtin.«sorted»;dsimp only;refine af (m:=checkCount "sorted" 1 1 _) (au ?_);refine af (collect_list f ?_);refine af (eW ?_);have o:((a.heap.push (dJ "list" #[] 0)).update a.heap.objs.size (cP (·++h.toArray))).objs.size=a.heap.objs.size+1:=by rw[cL,size_push']
 have p:(((a.heap.push (dJ "list" #[] 0)).update a.heap.objs.size (cP (·++h.toArray))).push (dJ "list" h.toArray 0)).get? (a.heap.objs.size+1)=Z (dJ "list" h.toArray 0):=by refine o▸?_;exact aU _ rfl
 have q:oQ (((a.heap.push (dJ "list" #[] 0)).update a.heap.objs.size (cP (·++h.toArray))).push (dJ "list" h.toArray 0)) j h l:=k.d λr s t _=>by exact av _ ((bG _ _ (dD (bK t))).trans (av _ t))
 refine o.symm▸?_;refine af (aT (wpAny_call_entry slot_list_sort ⟨_,p,rfl⟩ entry_list_sort (KH p i q m ⟨_,rfl,?_⟩) (args_list_sort _)));exact au ⟨_,rfl,n⟩
end
section
variable{e:Gd}{c:List bL}{f:aN}{a:Wd}{d:MS}{b:am}{h:PT}
theorem DS(a:rx (g::i)=Z j):∃k l m,g=.e k/\nx k=Z l/\rx i=Z m/\j=l::m:=by cases g with|e k=>exact lP (ru a) λl b c d e=>u6 k l b rfl c d e.symm|_=>exact nn a
theorem KJ(c:HS e a d b)(f:lx a g i):∀{j:List (List Int)},rx i=Z j->(∀k∈j,k.length=l)->oQ b.heap l g j:=by induction f using lx.e with|c=>intro j h _;exact(aa (show Z []=Z j from h))▸.c|b m f n=>intro j h o;refine tX (DS h) λp k q r s t u=>?_;subst r;subst u;obtain⟨v,w,x,y,rfl,z,A,B,C⟩:=m.o;exact .b (c.j _ _ z) A B (vA C s) (o _ (aw ..)) (n t λk h=>o k (aq _ h))
theorem lx.g{i}{j}(b:lx a i j):∀(o:Nat),VI a (i.getD o .none) (j.getD o .g):=by induction b using lx.e with|c=>exactλ_=>.g|b c _ d=>intro o;induction o with|zero=>exact c|succ o=>exact d o
theorem KL(b:lx a g i)(d:∀{j:Type}{k:j->ap}{l:j->V}(d:∀m,VI a (k m) (l m))(c:List j),lx a (c.map k) (c.map l)):lx a (o9 n g) (ue n i):=by
 delta o9 ue;refine b.a▸?_;split;·exact b
 ·exact d (λm=>b.g m) _
theorem lx.map{i:Type}{j:i->ap}{o:i->V}(b:∀p,VI a (j p) (o p)):∀c:List i,lx a (c.map j) (c.map o):=by intro d;induction d with|nil=>exact .c|cons e f g=>exact .b (b e) (g)
theorem DT(g)(i)(j):li g<=li (sortedAll g i j):=by delta li sortedAll sortedHeap;simp only[cL,aV];exact Y [] [g.objs.size] ⟨[],[],[],.L .a (.p (.p (.p (.p .a .u) .u) .u) .u)⟩
theorem KM{g:Prop}(a:i.length<64->∀j,nx i=Z j->k=(rA j).map .a->g)(b:i.length<64->∀l m,rx i=Z (l::m)->0<l.length->(∀n∈l::m,n.length=l.length)->k=ue (l::m) i->g)(c:sh i=Z k):g:=by
 unfold sh at c;by_cases d:i.length<64
 ·replace c:=(if_pos d)▸c;cases e:nx i with|some j=>rw[e]at c;exact a d j e (aa c).symm|none=>
   replace c:=e▸c;cases f:rx i with|none=>exact nn (f▸c)|some h=>
    replace c:=f▸c;cases o:h.all (λl=>l.length==(h.headD []).length&&0<l.length)with|false=>exact nn ((if_neg (λp=>bw (o.symm.trans p))).symm.trans c)|true=>
     induction h with
     |nil=>induction i with|nil=>exact nn e.symm|cons q i=>exact tX (DS f) λ_ _ _ _ _ _ p=>nomatch p
     |cons l m=>have r:=λn(s:n∈l::m)=>(Bool.and_eq_true_iff.mp ((List.all_eq_true.mp o) n s));exact b d l m f (of_decide_eq_true (r l (aw ..)).2) (λn s=>of_decide_eq_true (r n s).1) (aa ((if_pos o).symm.trans c)).symm
 ·exact nn ((if_neg d)▸c)
theorem DU(g:HS e a d b){i}{j k}(h:VI a i (.c j)\/∃l,VI a i (.b l)/\d.σ[l]?=Z (.c j))(m:sh j=Z k):az (aC e.a e.w) f (bI (.builtin "sorted") [i]) (PO e c VI a d b (.ok (V.c k) d)) (PE e c a d b (.ok (V.c k) d)) b:=by
 refine lP (DL g h) λn o p q r=>?_;refine p▸?_;clear h;refine KM (λs t u v=>?_) (λs w x y z A v=>?_) m;·refine v▸?_;clear m;refine sorted_ints q (vA r u) (r.a▸s) λB C E F G=>?_;refine(Kx F G)▸?_;refine lp (sortedAll_at b.heap o B) λv H=>?_;refine PO.e (o:=dJ "list" B v) (u:=b.toks) g (λ_ _=>sortedAll_old) (DT _ _ _) H (bo (pW _)) λJ L=>?_;exact .c (vs:=B.toList) (n:=v) L rfl rfl (DK E)
 ·refine v▸?_;clear m;refine KI q z (KJ g r y A) (r.a▸s) ?_;refine lp (sortedAll_at b.heap o (o9 (w::x) o).toArray) λv H=>?_;refine PO.e (o:=dJ "list" _ v) (u:=b.toks) g (λ_ _=>sortedAll_old) (DT _ _ _) H (bo (pW _)) λJ L=>?_;exact .c (vs:=o9 (w::x) o) L rfl rfl (KL (r.k J) lx.map)
theorem KN(g:VI a i j)(h:HS e a d b):kY e c f (bI (.builtin "sorted") [i]) (Cq j) VI a d b:=by cases j with|c k=>exact kY.k λl m _=>DU h (.inl g) m|b n=>exact kY.ug λo m=>kY.k λl p _=>DU h (.inr ⟨n,g,m⟩) p|_=>exact kY.b
end
end
section
inductive RG(W:Wd)(v:ap)(xs:List V):Prop|mk(a:aS)(x y z:Int)(t u w n:Nat)(h1:v=.ref a)(h2:W.φ a=Z {cls:=.type "range",data:=.fields #[.int x t,.int y u,.int z w]})(h3:cR x y z=I)(h4:aY x y z=((n:Nat):Int))(h5:n<=4096)(h6:xs=si x z n)
theorem xj(a):∀(b:Nat)(c:Int),(si c a b).length=b:=by intro b;induction b with|zero=>exactλ_=>rfl|succ b d=>exactλc=>congrArg (·+1) (d _)
theorem DV(a):∀(b:Nat)(c:Int)(d:Nat),d<b->(si c a b)[d]?=Z (.a (c+d*a)):=by intro e;induction e with|zero=>intro _ _ f;exact absurd f (gA _)|succ b g=>intro c h;induction h with|zero=>intro f;exact congrArg (λi=>Z (V.a i)) (by simp:c=c+(0:Nat)*a)|succ d=>intro f;refine(g (c+a) d (ej f)).trans (congrArg (λi=>Z (V.a i)) ?_);rw[Int.natCast_succ,gR,cW];exact Y [c,a,↑d*a] [] ⟨[],[],[],.e (.p (.p .a .b) .c) (.p .a (.p .c .b))⟩
section
variable{b:Gd}{f:List bL}{e:aN}{a:Wd}{c:MS}{d:am}{g:PT}
theorem Ag(a:te h i j=Z k):cR h i j=I/\j≠0/\j.natAbs<1073741824/\∃l:Nat,aY h i j=l/\l<=4096/\k=si h j l:=by unfold te at a;split at a<;>cases a;rename_i a;simp only[aJ,decide_eq_true_eq]at a;refine gz λb c=>?_;refine lA a λd e=>lA d λf g=>lA f λm n=>lA m λo p=>?_;refine c ?_;refine⟨o,g,e,(aY h i j).toNat,(Y [aY h i j] [] ⟨[1],[.t .a],[.l .o .a],.e .a (.n .a)⟩) p,(Y [aY h i j] [] ⟨[1,2],[.t .a],[.l .a (.k 4096)],.L .a (.k 4096)⟩) n,rfl⟩
theorem KO(g:lx a h i)(j:HS b a c d):kY b f e (bI (.type "range") h) (M.c (qr i)) RG a c d:=by cases g with|c=>exact kY.b|b k l=>cases l with|c=>exact kY.iO (λm=>bI (.type "range") [m]) k λn o=>kY.c λp q _=>nk (Ag q) λr s t u=>mQ u λv w x y=>call_range_1 (PO.c (Rel:=RG) j rfl λz A=>⟨_,_,_,_,_,_,_,_,rfl,A,r,w,x,y⟩)|b B l=>cases l with|c=>exact kY.iO (λm=>bI (.type "range") [m,_]) k λn o=>kY.iO (λm=>bI (.type "range") [.int n o,m]) B λC E=>kY.c λp q _=>nk (Ag q) λr s t u=>mQ u λv w x y=>call_range_2 (PO.c (Rel:=RG) j rfl λz A=>⟨_,_,_,_,_,_,_,_,rfl,A,r,w,x,y⟩)|b F l=>cases l with|c=>exact kY.iO (λm=>bI (.type "range") [m,_,_]) k λn o=>kY.iO (λm=>bI (.type "range") [.int n o,m,_]) B λC E=>kY.iO (λm=>bI (.type "range") [.int n o,.int C E,m]) F λG H=>kY.c λp q _=>nk (Ag q) λr s t u=>mQ u λv w x y=>call_range_3 s (PO.c (Rel:=RG) j rfl λz A=>⟨_,_,_,_,_,_,_,_,rfl,A,r,w,x,y⟩) (.inl (fW t))|b _ _=>exact kY.b
theorem KP:∀{h:List ap}{i:List V},h.length=i.length->(∀(j:Nat)(k:ap)(l:V),h[j]?=Z k->i[j]?=Z l->VI a k l)->lx a h i:=by
 intro b;induction b with
 |nil=>intro c;induction c with|nil=>intro _ _;exact .c|cons _ _=>intro d _;simp at d
 |cons k h e=>intro f;induction f with|nil=>intro d _;simp at d|cons l i=>intro d g;exact .b (g 0 k l rfl rfl) (e (by simpa using d) λj k l m n=>g (j+1) k l (by simpa using m) (by simpa using n))
theorem KQ(g:e.handled=D)(h:RG a i j)(k:HS b a c d):kY b f e (bI (.type "list") [i]) (M.pure (.c j)) VI a c d:=kY.j λ_=>by
 obtain⟨l,m,n,o,p,q,r,s,rfl,t,u,v,w,rfl⟩:=h;refine call_list_range g (k.j _ _ t) u v (lk w rfl) λx y z A B C E F=>?_;refine PO.e k B F C (pW _) λG H=>?_;refine .c (vs:=z.toList) (n:=A) H rfl (by rfl) (KP (by refine ah cF ?_;refine ah E.1 ?_;rw[xj]) λJ i L N O=>?_);refine lp (E.2 J i (by simpa using N)) λy P=>?_;refine P▸?_;have Q:J<s:=by have:=(List.getElem?_eq_some_iff.mp O).1;rw[xj]at this;exact this
 rw[DV o s m J Q]at O;refine(aa O)▸?_;exact .a _ _
end
end
section
structure DW(G:Gd)(T:PT):Prop where f:G.nm T.f="append"pop:G.nm T.b="pop"remove:G.nm T.k="remove"d:G.nm T.i="get"join:G.nm T.l="join"
noncomputable def KR(a:PT)(b:Nat):MO->String|.c _=>bif b==a.f then"list.append"else bif b==a.b then"list.pop"else"list.remove"|_=>bif b==a.i then"dict.get"else"dict.pop"
noncomputable def Ah(a:PT)(b:Nat)(c:V)(d:MO):String:=match c with|.d _=>"str.join"|_=>KR a b d
section
variable{f:Gd}{h:List bL}{i:aN}{c:Wd}{e:MS}{b:am}{g:PT}
theorem DX{a:V->MO->String->(List V->M V)->Prop}(b:rE g d j k=I)(c:∀l,d=g.l->a (.d l) k "str.join" (so g l))(e:∀m n,d=g.f->a (.b m) (.c n) "list.append" (oY vo m))(f:∀m n,d=g.b->a (.b m) (.c n) "list.pop" (oY vp m))(h:∀m n,d=g.k->a (.b m) (.c n) "list.remove" (oY vr m))(i:∀m o,d=g.i->a (.b m) (.m o) "dict.get" (qV vt m))(p:∀m o,d=g.b->a (.b m) (.m o) "dict.pop" (qV wV m)):a j k (Ah g d j k) (rG g d j k):=by
 cases j with
 |d l=>exact c l (aG (show(d==g.l)=I from b))|b m=>
  induction k with
  |c n=>show a (.b m) (.c n) (bif d==g.f then"list.append"else bif d==g.b then"list.pop"else"list.remove") (λq=>bif d==g.f then oY vo m q else bif d==g.b then oY vp m q else oY vr m q);have b:(d==g.f||(d==g.b||d==g.k))=I:=b;cases r:d==g.f with|true=>exact e m n (aG r)|false=>cases s:d==g.b with|true=>exact f m n (aG s)|false=>rw[r,s]at b;exact h m n (aG (show(d==g.k)=I from b))
  |m o=>show a (.b m) (.m o) (bif d==g.i then"dict.get"else"dict.pop") (λq=>bif d==g.i then qV vt m q else qV wV m q);have b:(d==g.i||d==g.b)=I:=b;cases r:d==g.i with|true=>exact i m o (aG r)|false=>replace b:=r▸b;exact p m o (aG (show(d==g.b)=I from b))
  |_=>exact ft b
 |_=>exact ft b
theorem Ai(a:VI c d (.b j))(g:HS f c e b)(h:e.σ[j]?=Z (.c k)):b.TypeIs d "list"/\∀l,d=.ref l->∃m,b.heap.get? l=Z m/\m.dict=D:=by obtain⟨i,rfl,n⟩:=a.n;obtain⟨o,⟨p,q⟩,r⟩:=g.k j _ i h n;exact⟨⟨_,q,rfl⟩,λl s=>⟨_,fe s▸q,rfl⟩⟩
theorem DY(a:VI c d (.b j))(g:HS f c e b)(h:e.σ[j]?=Z (.m k)):b.TypeIs d "dict"/\∀l,d=.ref l->∃m,b.heap.get? l=Z m/\m.dict=D:=by refine gz λi n=>?_;refine ll a.n λo p q=>?_;subst p;obtain⟨r,⟨m,s,t,u,⟨v,w,x⟩,y⟩,z⟩:=g.k j _ o h q;refine n ?_;exact⟨⟨_,u,v⟩,λl A=>⟨_,fe A▸u,w⟩⟩
theorem KS(a:DW f g){d}{h:ap×List ap->am->Prop}(j:VI c d k)(l:HS f c e b)(m:∀n,k=.b n->e.σ[n]?=Z o)(p:rE g q k o=I)(r:h (.builtin (Ah g q k o),[d]) b):az (aC f.a f.w) i (ju d (f.nm q) s) h t b:=by
 revert r m j;refine DX (a:=λk o u _=>VI c d k->(∀n,k=.b n->e.σ[n]?=Z o)->h (.builtin u,[d]) b->az (aC f.a f.w) i (ju d (f.nm q) s) h t b) p (λv w j m r=>?_) (λn x w j m r=>?_) (λn x w j m r=>?_) (λn x w j m r=>?_) (λn x w j m r=>?_) λn x w j m r=>?_;·refine lp j.m λy z=>?_;subst z;refine w▸?_;refine a.join▸?_;exact cH (j4 b _ _) F.plainAttrs_str F.slot_str_join F.type_str_join (λA w=>by contradiction) r
 ·obtain⟨B,C⟩:=Ai j l (m n rfl);rw[w,a.f];exact cH B dE gY gZ C r
 ·obtain⟨B,C⟩:=Ai j l (m n rfl);rw[w,a.pop];exact cH B dE F.slot_list_pop F.type_list_pop C r
 ·obtain⟨B,C⟩:=Ai j l (m n rfl);rw[w,a.remove];exact cH B dE F.slot_list_remove F.type_list_remove C r
 ·obtain⟨B,C⟩:=DY j l (m n rfl);rw[w,a.d];exact cH B F.plainAttrs_dict F.slot_dict_get F.type_dict_get C r
 ·obtain⟨B,C⟩:=DY j l (m n rfl);rw[w,a.pop];exact cH B F.plainAttrs_dict gM F.type_dict_pop C r
theorem PO.t{j k:Type}{Rel:Wd->j->k->Prop}{l:j}{d:k}{m n}(a:HS f c e b)(g:∀o∈lB h,o∉c.as)(i:e.σ[p]?=Z m)(q:c.as[p]?=Z o)(r:bA o b.heap s)(t:MR f c s o n)(u:Rel c l d):PO f h Rel c e b (.ok d ⟨e.σ.set p n,e.mu+1⟩) l {b with heap:=s,toks:=tk}:=⟨d,_,c,rfl,Gr.t a q (λv=>g o v (aH q)) r t,a.t i q r t,u⟩
theorem KT(a:lx c d j):∀{k:List (List Nat)},ud j=Z k->StrsAre d (k.map λb=>⟨b.toArray⟩):=by induction a using lx.e with|c=>intro k e;exact(aa (show Z []=Z k from e))▸.nil|@b f g j h i a l=>intro k e;cases g with|d m=>refine lp i.m λn o=>?_;refine o▸?_;refine ll (t9 (e:(ud h).map (m::·)=Z k)) λp q r=>?_;exact r▸.cons _ _ (l q)|_=>exact nn e
theorem KU(a):∀d:List (List Nat),Str.join ⟨a.toArray⟩ (d.map λb=>⟨b.toArray⟩)=⟨(qs a d).toArray⟩:=by intro d;induction d with|nil=>rfl|cons c e f=>induction e with|nil=>rfl|cons g e=>refine(ah (congrArg _ f) ?_:(⟨c.toArray⟩:aX)++⟨a.toArray⟩++Str.join ⟨a.toArray⟩ ((g::e).map λb=>⟨b.toArray⟩)=_);show(⟨c.toArray++a.toArray++(qs a (g::e)).toArray⟩:aX)=⟨(c++a++qs a (g::e)).toArray⟩;simp
theorem KV:∀(a:List (List Nat)),(∀b∈a,b.length<=200)->((a.map λb=>(⟨b.toArray⟩:aX)).map (·.length)).sum<=a.length*200:=by
 intro c;induction c with
 |nil=>
  intro _;decide|cons b d e=>
  intro f;have g:=f b (aw ..);have h:=e λb i=>f b (aq _ i);simp only[dr,List.sum_cons,bE,Nat.succ_mul]at h⊢;have:(⟨b.toArray⟩:aX).length=b.length:=by show b.toArray.size=_;simp
  exact ao (fw (ao (bV this) g) h) (bV (Nat.add_comm _ _))
theorem KW(a:VI c d (.d j))(g:VI c k l)(m:HS f c e b):kY f h i (bI (.builtin "str.join") [d,k]) (zJ j l) VI c e b:=by
 cases l with|c n=>
  refine lp a.m λo p=>?_;refine p▸?_;obtain⟨q,r,s,t,rfl,u,v,w,x⟩:=g.l;refine kY.k λy z=>kY.f λA _=>?_;refine lA (Bool.and_eq_true_iff.mp A) λA B=>?_;refine lA (Bool.and_eq_true_iff.mp A) λC E=>?_;have F:=KT x z;have G:y.length=n.length:=by have:=F.len_eq;rw[ay]at this;refine this▸?_;exact x.a▸rfl
  refine join_list (VI.t m u v w) (items:=s.toArray) (ys:=y.map λb=>⟨b.toArray⟩) F ?_ λH J=>?_;·have L:=KV y λb M=>of_decide_eq_true (List.all_eq_true.mp E b M);have N:(⟨j.toArray⟩:aX).length=j.length:=aR;refine N▸?_;rw[ay];have O:y.length*j.length<=4096*200:=Nat.mul_le_mul (G▸of_decide_eq_true C:y.length<=4096) (of_decide_eq_true B);exact ao (fw (ao L (Nat.mul_le_mul_right 200 (ao (bV G) (of_decide_eq_true C)))) O) (by decide)
  ·rw[aG (join_plain_closes _ _),KU];exact PO.g m (.d _ _)|_=>exact kY.b
theorem lx.take'(a:lx c j o):∀p:Nat,lx c (j.take p) (o.take p):=by induction a using lx.e with|c=>exactλp=>by exact List.take_nil.symm▸List.take_nil.symm▸.c|b b _ d=>intro p;induction p with|zero=>exact .c|succ p=>exact .b b (d p)
theorem lx.n(a:lx c j o):lx c j.dropLast o.dropLast:=by refine j5▸?_;rw[j5,a.a];exact a.take' _
theorem lx.getLast:∀{j:List ap},lx c j o->o.getLast?=Z p->∃q,j.getLast?=Z q/\VI c q p:=λ{j}a b=>by rw[fH]at b;refine gz λd e=>?_;refine ll (a.d b) λq f g=>?_;refine e ?_;refine lQ q ?_ g;refine(fH)▸?_;exact a.a▸f
theorem IntsAre.a(a:IntsAre d j):∀k,(j.findIdx? (·==l))=Z k->IntsAre (d.eraseIdx k) (j.erase l):=by induction a with|nil=>exactλk b=>nn b|cons c e a f=>intro k b;rw[kS]at b;rw[List.erase_cons];cases g:(c==l)with|true=>replace b:=g▸b;exact(aa b)▸a|false=>replace b:=(if_neg dQ)▸g▸b;refine ll (Option.map_eq_some_iff.mp b) λh i m=>?_;refine m▸?_;exact .cons c e (f h i)
theorem DZ{a:dk}(b:a.PlainList d j)(k:Array ap->Array ap):(a.update d (cP k)).PlainList d (k j):=by obtain⟨c,b⟩:=b;exact⟨_,bQ (cP k) b rfl⟩
theorem Aj{a}(d:VI c j (.b k))(g:HS f c e b)(l:∀m n o,j=.ref m->e.σ[k]?=Z (.c n)->c.as[k]?=Z m->b.heap.PlainList m o.toArray->lx c o n->o.toArray.size<=cB->p k n e q≠.b->az (aC f.a f.w) i (bI (.builtin a) (j::r)) (PO f h VI c e b (p k n e q)) (PE f h c e b (p k n e q)) b):kY f h i (bI (.builtin a) (j::r)) (oY p k q) VI c e b:=by
 intro s;obtain⟨m,t,u⟩:=d.n;unfold oY at s⊢;cases v:e.σ[k]? with|none=>rw[v]at s;exact absurd rfl s|some w=>
  rw[v]at s;induction w with|c n=>
   dsimp only at s⊢;by_cases x:n.length<=4096;·rw[if_pos x]at s⊢;obtain⟨o,y,z⟩:=g.k k _ m v u;exact l m n o t v u y z (by refine aR▸?_;rw[z.a,m5];exact ao x (by decide)) s
   ·rw[if_neg x]at s;exact absurd rfl s|_=>exact absurd rfl s
theorem D0{a}(d:VI c j (.b k))(g:HS f c e b)(l:∀m n o,j=.ref m->e.σ[k]?=Z (.m n)->c.as[k]?=Z m->b.heap.DictOf (eU f.a f.w) m o->mA c o n->o.length<=cB->p k n e q≠.b->az (aC f.a f.w) i (bI (.builtin a) (j::r)) (PO f h VI c e b (p k n e q)) (PE f h c e b (p k n e q)) b):kY f h i (bI (.builtin a) (j::r)) (qV p k q) VI c e b:=by
 intro s;obtain⟨m,t,u⟩:=d.n;unfold qV at s⊢;cases v:e.σ[k]? with|none=>rw[v]at s;exact absurd rfl s|some w=>
  rw[v]at s;induction w with|m n=>
   dsimp only at s⊢;by_cases x:n.length<=4096;·rw[if_pos x]at s⊢;obtain⟨o,y,z⟩:=g.k k _ m v u;exact l m n o t v u y z (by refine z.a▸?_;exact ao x (by decide)) s
   ·rw[if_neg x]at s;exact absurd rfl s|_=>exact absurd rfl s
section
variable{a:Nat}{j:ap}{k:List ap}{d:List V}
theorem D1{l:List V->R V}(a:l d≠.b)(b:l []=.b)(c:∀m n o,l (m::n::o)=.b):∃p,d=[p]:=by cases d with|nil=>exact absurd b a|cons p o=>induction o with|nil=>exact⟨p,rfl⟩|cons=>exact absurd (c _ _ _) a
theorem KY{l:List V->R V}(a:l d≠.b)(b:l []=.b)(c:∀m,l [m]=.b)(e:∀m n o p,l (m::n::o::p)=.b):∃q r,d=[q,r]:=by cases d with|nil=>exact absurd b a|cons q p=>cases p with|nil=>exact absurd (c _) a|cons r p=>induction p with|nil=>exact tZ q r rfl|cons=>exact absurd (e _ _ _ _) a
theorem KZ(g:∀l∈lB h,l∉c.as)(m:VI c j (.b a))(n:lx c k d)(o:HS f c e b):kY f h i (bI (.builtin "list.append") (j::k)) (oY vo a d) VI c e b:=by refine Aj m o λl p q r s t u v w x=>?_;refine lp (D1 (l:=vo a p e) x rfl λ_ _ _=>rfl) λy z=>?_;subst z;refine ll n.mF λA z B=>?_;refine z▸?_;refine r▸?_;exact er u (λC E F=>PO.t (tk:=b.toks) o g s t F ⟨q++[A],by simpa using E,v.f (.b B .c)⟩ .g) w
theorem K0(g:∀l∈lB h,l∉c.as)(m:VI c j (.b a))(n:lx c k d)(o:HS f c e b):kY f h i (bI (.builtin "list.pop") (j::k)) (oY vp a d) VI c e b:=by
 refine Aj m o λl p q r s t u v w x=>?_;induction d with|cons y d=>exact absurd rfl x|nil=>
  refine n.nl▸?_;refine r▸?_;unfold vp at x⊢;dsimp only at x⊢;cases z:p.getLast? with|none=>replace x:=z▸x;exact absurd rfl x|some y=>
   refine gz λA B=>?_;refine ll (v.getLast z) λC E G=>?_;obtain⟨H,J⟩:=u;refine B ?_;have L:q.toArray[q.toArray.size-1]?=Z C:=by refine ah (List.getElem?_toArray) ?_;exact aR▸(fH)▸E
   refine iN F.slot_list_pop ⟨_,J,rfl⟩ F.entry_list_pop (F.args_list_pop_1 _) (MeetsSeq.list_pop_last l q.toArray H C L w) ⟨J,PO.t (tk:=b.toks) o g s t (cS ..) ⟨q.dropLast,?_,v.n⟩ G⟩;have:=DZ ⟨H,J⟩ (λM=>M.eraseIdxIfInBounds (q.toArray.size-1));rwa[iB,aR,List.eraseIdx_eq_dropLast (by have:=List.length_pos_iff.mpr (show q≠[]fromλN=>by replace E:=N▸E;exact nn E);exact(Y [] [q.length] ⟨[1],[.s .a .u],[.T .o .a],.E (.p .b .u) .a⟩) this)]at this
theorem K1{l:List Int}(a:l.contains m=I):∃n,l.findIdx? (·==m)=Z n:=by cases b:l.findIdx? (·==m)with|some n=>exact⟨n,rfl⟩|none=>have:=List.findIdx?_eq_none_iff.mp b m (by simpa using a);simp at this
theorem K2(a:IntsAre l m)(n)(b:n<m.length):∃o,l[n]?=Z (.int m[n] o):=by refine gz λc d=>?_;refine mB (a.at n (l[n]'(a.length▸b)) (aI _)) λe f g h=>?_;refine d ?_;rw[aI b]at h;exact⟨f,by refine ah (aI (a.length▸b)) ?_;refine ah (congrArg _ g) ?_;exact(aa h)▸rfl⟩
theorem K3(g:∀l∈lB h,l∉c.as)(m:VI c j (.b a))(n:lx c k d)(o:HS f c e b):kY f h i (bI (.builtin "list.remove") (j::k)) (oY vr a d) VI c e b:=by
 refine Aj m o λl p q r s t u v w x=>?_;refine lp (D1 (l:=vr a p e) x rfl λ_ _ _=>rfl) λy z=>?_;subst z;refine ll n.mF λa0 z A=>?_;refine z▸?_;refine r▸?_;show az _ i _ (PO f h VI c e b (vq a p e y)) (PE f h c e b (vq a p e y)) b;have x:vq a p e y≠.b:=x;cases y with
 |a B=>
  unfold vq at x⊢;dsimp only at x⊢;cases C:nx p with|none=>replace x:=C▸x;exact absurd rfl x|some E=>
   rw[C]at x;dsimp only at x⊢;by_cases G:E.contains B=I
   ·rw[if_pos G];refine gz λa3 H=>?_;refine lp A.j λJ z=>?_;subst z;obtain⟨L,M⟩:=u;have N:=vA v C;refine lp (K1 G) λO P=>?_;obtain⟨Q,R,S⟩:=List.findIdx?_eq_some_iff_getElem.mp P;refine H ?_;have T:∀(U:Nat)(V:U<q.toArray.size),∃W X,q.toArray[U]=.int (E[U]'W) X:=λU V=>by
     have W:U<E.length:=by exact N.length▸V
     refine lp (K2 N U W) λX r=>?_;exact⟨W,X,aa ((aI (by rw[N.length];exact W)).symm.trans r)⟩
    refine iN F.slot_list_remove ⟨_,M,rfl⟩ F.entry_list_remove (F.args_list_remove_2 _ _) (MeetsSeq.list_remove l q.toArray L (.int B J) (λa4=>match a4 with|.int a _=>a==B|_=>ak) (λa5 a6=>?_) O (by rw[aR,N.length];exact Q) ?_ (λU V a7=>?_) w) ⟨M,?_⟩;·obtain⟨U,V,rfl⟩:=Array.getElem_of_mem a6;obtain⟨_,X,r⟩:=T U V;refine r▸?_;exact MeetsSeq.EqGives.int _ _ _ _
    ·obtain⟨_,X,r⟩:=T O (by rw[aR,N.length];exact Q);exact r▸R
    ·obtain⟨_,X,r⟩:=T U V;rw[r];exact Bool.eq_false_iff.mpr (S U a7)
    ·refine PO.t (tk:=b.toks) o g s t (cS ..) ⟨q.eraseIdx O,?_,DK (IntsAre.a N O P)⟩ .g;have:=DZ ⟨L,M⟩ (λa8=>a8.eraseIdxIfInBounds O);rwa[iB]at this
   ·rw[if_neg G]at x;exact absurd rfl x|_=>exact absurd rfl x
theorem Ak(l)(m):(keyPart (.int l m)).isSome=I:=rfl
theorem K4(g:VI c j (.b a))(l:lx c k d)(m:HS f c e b):kY f h i (bI (.builtin "dict.get") (j::k)) (qV vt a d) VI c e b:=by
 refine D0 g m λn o p q r s t u v w=>?_;refine mY (KY (l:=vt a o e) w rfl (λ_=>rfl) λ_ _ _ _=>rfl) λx y z=>?_;subst z;refine lP l.two λA B z C E=>?_;refine z▸?_;refine q▸?_;cases x with
 |a G=>refine lp C.j λH z=>?_;subst z;refine je F.slot_dict_get t.typeIs F.entry_dict_get (F.args_dict_get_3 _ _ _) (meets_dict_get_default (eU f.a f.w) n (tn _ _ G H) (m.x (aH s)) B) ⟨gf p,t.mapOf,PO.g (tk:=b.toks+1) m ?_⟩;cases J:mL G o with|none=>exact(u.g J)▸E|some L=>refine ll (u.e J) λM N O=>?_;exact N▸O
 |_=>exact absurd rfl w
theorem K5(g:∀l∈lB h,l∉c.as)(m:VI c j (.b a))(n:lx c k d)(o:HS f c e b):kY f h i (bI (.builtin "dict.pop") (j::k)) (qV wV a d) VI c e b:=by
 refine D0 m o λl p q r s t u v w x=>?_;match d,n,x with
 |[y],n,x=>
  obtain⟨z,rfl,A⟩:=n.mF;refine r▸?_;show az _ i _ (PO f h VI c e b (rF a p e .b y)) (PE f h c e b (rF a p e .b y)) b;have x:rF a p e .b y≠.b:=x;cases y with
  |a B=>refine gz λC E=>?_;refine lp A.j λG H=>?_;subst H;refine E ?_;unfold rF at x⊢;dsimp only at x⊢;cases J:mL B p with|none=>replace x:=J▸x;exact absurd rfl x|some L=>obtain⟨M,N,O⟩:=v.e J;exact je gM u.typeIs jf (F.args_dict_pop_2 _ _) (meets_dict_pop_there (eU f.a f.w) l (tn _ _ B G) [] (.inl rfl) (Ak B G)) ⟨q,M,u,w,N,λP Q R=>PO.t (tk:=b.toks+1) o g s t R ⟨_,Q,v.h⟩ O⟩
  |_=>exact absurd rfl x
 |[y,S],n,x=>
  obtain⟨z,T,rfl,A,U⟩:=n.two;refine r▸?_;show az _ i _ (PO f h VI c e b (rF a p e (.ok S e) y)) (PE f h c e b (rF a p e (.ok S e) y)) b;cases y with
  |a B=>obtain⟨G,rfl⟩:=A.j;unfold rF;dsimp only;cases J:mL B p with|none=>exact je gM u.typeIs jf (F.args_dict_pop_3 _ _ _) (meets_dict_pop_default (eU f.a f.w) l (tn _ _ B G) (o.x (aH t)) (Ak B G) T) ⟨q,u,v.g J,PO.g (tk:=b.toks+1) o U⟩|some L=>obtain⟨M,N,O⟩:=v.e J;exact je gM u.typeIs jf (F.args_dict_pop_3 _ _ _) (meets_dict_pop_there (eU f.a f.w) l (tn _ _ B G) [T] (.inr ⟨T,rfl⟩) (Ak B G)) ⟨q,M,u,w,N,λP Q R=>PO.t (tk:=b.toks+1) o g s t R ⟨_,Q,v.h⟩ O⟩
  |_=>exact absurd rfl (x)
end
theorem K6(a:lx c d j)(k:∀l m,VI c l m->kY f h i (bI (.builtin "str.join") [n,l]) (zJ o m) VI c e b):kY f h i (bI (.builtin "str.join") (n::d)) (so g o j) VI c e b:=by match j,a with|[],_=>exact kY.b|_::_::_,_=>exact kY.b|[m],a=>refine ll a.mF λl p q=>?_;refine p▸?_;exact k l m q
theorem K7{a}(d:∀j∈lB h,j∉c.as)(k:rE g a l m=I)(n:VI c o l)(p:lx c q r)(s:HS f c e b):kY f h i (bI (.builtin (Ah g a l m)) (o::q)) (rG g a l m r) VI c e b:=by revert n;exact DX (a:=λl m t u=>VI c o l->kY f h i (bI (.builtin t) (o::q)) (u r) VI c e b) k (λv _ n=>K6 p λw x y=>KW n y s) (λz _ _ n=>KZ d n p s) (λz _ _ n=>K0 d n p s) (λz _ _ n=>K3 d n p s) (λz _ _ n=>K4 n p s) λz _ _ n=>K5 d n p s
end
end
section
noncomputable def vM(a:Gd)(b:aS)(c:List (List Nat×Int)):Prop:=∀d:dk,a.K.In d->∃e,d.MapOf (PySem.strKind a.a a.w) b e/\∀f g,(c.find? (·.1==f)).map (·.2)=Z g->∃h,e ⟨f.toArray⟩=Z (.int g h)
section
variable{c:Gd}{e:List bL}{f:aN}{d:Wd}{b:MS}{a:am}{g:PT}
inductive BT(a:am)(o:ap):Prop|mk(g id:String)(h1:a.TypeIs o g)(h2:typeLookup (.type g) "__getitem__"=ba (Z (.builtin id)))
theorem K8(b:BT a h)(d:Q ak a):az (aC c.a c.w) f (getitemInPython h) Q i a:=by obtain⟨g,e,j,k⟩:=b;exact af (wpAny_specialOf j k (au d))
theorem Al{h:Type}{i:Wd->ap->h->Prop}{j:M h}(g:∃k,subscripted l ak m n=operate k (d_ m n))(o:j b≠.b->BT a m/\az (aC c.a c.w) f (d_ m n) (PO c e i d b a (j b)) (PE c e d b a (j b)) a):kY c e f (do
 let p←subscripted l (←getitemInPython m) m n
 letTemporaryGo q m p
 ba p) j i d b a:=λr=>by refine lA (o r) λs t=>?_;obtain⟨k,g⟩:=g;refine af (K8 s ?_);refine g▸?_;refine af (Cw (aK t (λu v w=>?_) λ_ _ x=>x));exact af (iu (au w))
theorem K9{h}{i}(b:a.heap.get? h=Z i)(c:i.cls=.type "tuple"):BT a (.ref h):=⟨_,_,⟨_,b,c⟩,PyProof.Rows.slot_tuple_getitem.lookup⟩
theorem D2{h}{i}(b:a.heap.get? h=Z i)(c:i.cls=.type "list"):BT a (.ref h):=⟨_,_,⟨_,b,c⟩,slot_list_getitem.lookup⟩
theorem D3{h}(b:a.TypeIs (.ref h) "dict"):BT a (.ref h):=⟨_,_,b,slot_dict_getitem.lookup⟩
theorem K_(h)(i):BT a (.str h i):=⟨_,_,j4 a h i,F.slot_str_getitem.lookup⟩
theorem D4(h)(i):BT a (.bytes h i):=⟨_,_,jd a h i,FB.slot_bytes_getitem.lookup⟩
theorem La{h:Type}{i:List h}{j:h}(a:idx k l=Z m)(b:i.length=l)(c:i[m]?=Z j):-4096<=k/\k<=4096/\seqIndex? k l=Z m:=by
 unfold idx at a;split at a;·rename_i d;simp only[aJ,decide_eq_true_eq]at d;obtain rfl:=aa a;refine oz ((Y [k] [] ⟨[1],[],[.A (.l .o .a) (.l .a (.k 4096))],.l (.k (-4096)) .a⟩) d) d.2 (seqIndex_of d.1 ((Y [k] [l] ⟨[1,2],[.t .a],[.A (.l .o .a) (.l .a (.k 4096)),.T .b .a],.t .a (.n .a)⟩) d (b▸((List.getElem?_eq_some_iff.mp c).1))))
 ·split at a;·rename_i d;simp only[aJ,decide_eq_true_eq]at d;refine(aa a)▸?_;exact oz d.2 ((Y [k] [l] ⟨[2,1],[],[.A (.A (.t .a .o) (.l (.g (.n .a)) .a)) (.l (.k (-4096)) .a)],.l .a (.k 4096)⟩) d) (PySem.seqIndex_neg d.1.1 d.1.2)
  ·exact nn a
theorem kY.p{m s:Type}{t:Wd->m->s->Prop}{u:gF m}{v:Prop}[Decidable v]{w:M s}(g:v->kY c e f u w t d b a):kY c e f u (if v then w else M.b) t d b a:=by
 by_cases h:v;·exact(if_pos h)▸(g h)
 ·exact(if_neg h)▸kY.b
theorem kY.q{m s:Type}{t:Wd->m->s->Prop}{u:gF m}{v:Prop}[Decidable v]{w:M s}(g:v->kY c e f u w t d b a):kY c e f u (λb=>if v then w b else .b) t d b a:=by
 by_cases h:v;·exact kY.e (g h) (if_pos h)
 ·exact kY.e kY.b (if_neg h)
theorem vN(g:∀h,i=Z h->az (aC c.a c.w) f j (PO c e VI d b a (.ok h b)) (PE c e d b a (.ok h b)) a):kY c e f j (M.c i) VI d b a:=by induction i with|none=>exact kY.b|some h=>exactλ_=>g h rfl
theorem Lb{h:Type}{i:Int->M h}{j}(a:iM i j b≠.b):∃k,i k b≠.b:=by cases j with|a k=>exact⟨k,a⟩|_=>exact absurd rfl a
theorem Lc{h:Type}{i}{j:List (Int×V)->M h}(a:mR i (dM j) b≠.b):∃k,b.σ[i]?=Z (.m k):=by unfold mR at a;revert a;cases b.σ[i]? with|none=>exactλa=>absurd rfl a|some c=>induction c with|m k=>exactλ_=>⟨k,rfl⟩|_=>exactλa=>absurd rfl a
theorem Ld(f:∀h e,g.d h=Z e->vM c h e){i}{j k}(l:VI d i j)(m:HS c d b a)(n:mS g j k b≠.b):BT a i:=by
 cases j with
 |e o=>obtain⟨h,p,q,r,rfl,s,t,u,v⟩:=l.o;exact K9 (m.j _ _ s) t|c o=>obtain⟨h,p,q,r,rfl,s,t,u,v⟩:=l.l;exact D2 (m.j _ _ s) t|d w=>refine lp l.m λx y=>?_;cases y;exact K_ _ _|b k=>
  refine ll l.n λh y z=>?_;refine y▸?_;refine lp (Lb n) λA B=>lp (Lc B) λC E=>ll (m.k k _ h E z) λF G H=>D3 G.typeIs|i h=>
  refine l.q▸?_;cases y:g.d h with
  |none=>cases k with|d w=>exact absurd (show M.c ((g.d h).bind _) b=_ by refine y▸?_;rfl) n|_=>exact absurd rfl n
  |some J=>exact ll (f h J y a.heap m.K) λL N _=>D3 N.typeIs
 |_=>exact absurd rfl n
theorem kY.sM{m s:Type}{t:Wd->m->s->Prop}(u:ap->gF m){v:List Nat->M s}(g:VI d w x)(h:∀y z,kY c e f (u (.str ⟨y.toArray⟩ z)) (v y) t d b a):kY c e f (u w) (sM v x) t d b a:=by cases x with|d y=>refine lp g.m λz i=>?_;cases i;exact h y z|_=>exact kY.b
theorem Le(g:VI d h (.c i))(j:HS c d b a):kY c e f (d_ h (.int k l)) (M.c ((idx k i.length).bind λm=>i[m]?)) VI d b a:=by refine vN λn o=>?_;obtain⟨p,q,r,s,rfl,t,u,v,w⟩:=g.l;refine ll (Option.bind_eq_some_iff.mp o) λm x y=>ll (w.d y) λz A B=>?_;have C:=VI.t j t u v;unfold idx at x;cases E:aE (0<=k)&&aE (k<=4096)with|true=>rw[E]at x;obtain rfl:=aa x;exact wpAny_getItem_list C ((Bool.and_eq_true_iff.mp E).imp of_decide_eq_true of_decide_eq_true).1 (by lia) (by simpa using A) (PO.a j B)|false=>rw[E]at x;revert x;show(if(aE (k<0)&&aE (-(i.length:Int)<=k)&&aE (-4096<=k))=I then _ else D)=_->_;cases E:aE (k<0)&&aE (-(i.length:Int)<=k)&&aE (-4096<=k)with|false=>exact nn|true=>intro x;obtain rfl:=aa x;simp only[aJ,decide_eq_true_eq]at E;rw[←w.a]at E A;exact wpAny_getItem_list_neg C E.1.1 (E.1.2) ((Y [k] [r.length] ⟨[2,1],[],[.A (.A (.t .a .o) (.l (.g (.n .a)) .a)) (.l (.k (-4096)) .a)],.l (.g (.k 9223372036854775808)) .a⟩) E) (by simpa using A) (PO.a j B)
theorem Lf(h:∀i e,g.d i=Z e->vM c i e){j k}{l m}(n:VI d j l)(o:VI d k m)(p:HS c d b a):kY c e f (d_ j k) (mS g l m) VI d b a:=by
 cases l with
 |e q=>
  refine kY.iM (d_ j) o λk r=>vN λs t=>?_;obtain⟨i,u,v,w,rfl,x,y,z,A⟩:=n.o;refine ll (Option.bind_eq_some_iff.mp t) λa0 B C=>mj (La B rfl C) λE F G=>ll (A.d C) λH J L=>?_;rw[←A.a]at G;exact PyProof.Rows.getItem_tuple (items:=v.toArray) ⟨u,p.j _ _ x,y,w,z⟩ ((Y [k] [] ⟨[1],[],[.l (.k (-4096)) .a],.l (.g (.k 9223372036854775808)) .a⟩) E) ((Y [k] [] ⟨[1],[],[.l .a (.k 4096)],.t .a (.k 9223372036854775808)⟩) F) (G) (by simpa using J) (PO.a p L)|c q=>exact kY.iM (d_ j) o λk r=>Le n p|d H=>
  refine kY.iM (d_ j) o λk r=>?_;refine lp n.m λM N=>?_;refine N▸?_;refine kY.p λO=>vN λs t=>?_;refine ll (Option.map_eq_some_iff.mp t) λQ R N=>?_;induction N;simp only[aJ,decide_eq_true_eq]at O;refine P.getItem_str (c:=Q) ?_ ?_ (PO.g p (.d [Q] _));·simp only[gP,decide_eq_false_iff_not];exact(Y [k] [] ⟨[1],[],[.A (.l .o .a) (.l .a (.k 4096))],.A (.N (.t .a (.g (.k 9223372036854775808)))) (.N (.l (.k 9223372036854775808) .a))⟩) O
  ·have:(⟨H.toArray⟩:aX).length=H.length:=aR;refine this▸?_;refine(seqIndex_of O.1 ((Y [k] [H.length] ⟨[1,2],[.t .a],[.A (.l .o .a) (.l .a (.k 4096)),.T .b .a],.t .a (.n .a)⟩) O ((List.getElem?_eq_some_iff.mp R).1)))▸?_;show H.toArray[k.toNat]?=Z Q;simpa using R|b m=>refine kY.iM (d_ j) o λk r=>kY.mR λS t=>?_;induction S with|m a3=>refine vN λs T=>?_;refine ll n.n λi N U=>?_;refine N▸?_;exact ll (p.k m _ i t U) λa4 V W=>ll (W.e T) λH J L=>wpAny_getItem_of (knd:=eU c.a c.w) (k:=k) (tn _ _ k r) V.mapOf J (PO.g p L)|_=>exact kY.b
 |i i=>refine kY.sM (d_ j) o λH r=>vN λs t=>?_;refine n.q▸?_;refine ll (Option.bind_eq_some_iff.mp t) λX N a5=>ll (Option.map_eq_some_iff.mp a5) λV R a6=>?_;refine a6▸?_;refine ll (h i X N a.heap p.K) λa7 a8 a9=>lp (a9 H V.2 (by refine ah (congrArg _ R) ?_;rfl)) λM b0=>?_;exact wpAny_getItem_of (knd:=PySem.strKind c.a c.w) (k:=⟨H.toArray⟩) (strKind_is c.a c.w _ r) a8 b0 (PO.g p (.a _ _))|_=>exact kY.b
theorem Lg(h:∀i e,g.d i=Z e->vM c i e)(j:VI d k l)(m:VI d n o)(p:HS c d b a)(q:mS g l o b≠.b):BT a k/\az (aC c.a c.w) f (d_ k n) (PO c e VI d b a (mS g l o b)) (PE c e d b a (mS g l o b)) a:=⟨Ld h j p q,Lf h j m p q⟩
theorem Lh{h i j}{k l m}(g:∀n∈lB e,n∉d.as)(o:VI d h k)(p:VI d i l)(q:VI d j m)(r:HS c d b a):kY c e f (setItem h i j) (rD k l m) (λ_ _ _=>True) d b a:=by refine kY.rM (λh=>setItem h i j) o λl n s=>kY.iM (λi=>setItem (.ref n) i j) p λi t=>kY.mR λu v=>?_;induction u with|m w=>refine kY.q (w:=λb=>.ok () ⟨b.σ.set l (.m (pT i m w)),b.mu+1⟩) λx _=>ll (r.k l _ n v s) λy z A=>?_;refine wpAny_setItem_pairs (knd:=eU c.a c.w) (k:=i) (tn _ _ i t) z (λB C E=>?_) (by refine A.a▸?_;refine m5▸?_;exact lk x rfl);exact PO.t (Rel:=λ_ _ _=>True) (d:=()) (tk:=a.toks+1) r g v s E ⟨_,C,A.stored q⟩ trivial|_=>exact kY.b
theorem lx.drop'(a:lx d i j):∀o:Nat,lx d (i.drop o) (j.drop o):=by induction a using lx.e with|c=>exactλo=>by refine List.drop_nil.symm▸?_;exact List.drop_nil.symm▸.c|b b c e=>intro o;induction o with|zero=>exact .b b c|succ o=>exact e o
theorem Li{g h}{i}(j:VI d k (.c l))(m:HS c d b a)(n:a.heap.IsSliceOf i o p .none)(q:jv o g)(r:jv p h)(s:l.length<=mE)(t:u=(l.drop (g.elim 0 (fy l.length))).take (h.elim l.length (fy l.length)-g.elim 0 (fy l.length))):BT a k/\az (aC c.a c.w) f (d_ k (.ref i)) (PO c e VI d b a (.ok (V.c u) b)) (PE c e d b a (.ok (V.c u) b)) a:=by obtain⟨v,w,x,y,rfl,z,A,B,C⟩:=j.l;refine n0 (D2 (m.j _ _ z) A) ?_;refine wpAny_getItem_list_slice (VI.t m z A B) n q r .none (by decide) ?_ (by refine aR▸?_;refine C.a▸?_;refine m5▸?_;unfold mE at s;exact lk s rfl);refine PO.c (r:=a.toks) m rfl λE F=>?_;rw[slicePick_plain,show x.toArray.toList=x from rfl,(by simp[C.a]:x.toArray.size=l.length)]at E F⊢;refine .c F rfl rfl ?_;rw[t];exact((C.k E).drop' _).take' _
theorem Lj{g h}{i}(j:VI d k (.f l))(m:HS c d b a)(n:a.heap.IsSliceOf i o p .none)(q:jv o g)(r:jv p h)(s:l.length<=mE)(t:u=(l.drop (g.elim 0 (fy l.length))).take (h.elim l.length (fy l.length)-g.elim 0 (fy l.length))):BT a k/\az (aC c.a c.w) f (d_ k (.ref i)) (PO c e VI d b a (.ok (V.f u) b)) (PE c e d b a (.ok (V.f u) b)) a:=by
 refine mB j.u λv w x y=>?_;refine x▸?_;subst y;refine n0 (D4 v w) ?_;refine getItem_meets (jd _ _ _) (by decide) kG ku (j6 _ _) (KBc.meets_slice2 v w i q r) ⟨n,ao (KBc.size_picked_le _ _ _) (by simp at s;refine m5▸?_;unfold mE at s;exact lk s rfl:v.size<=cB),λz A=>?_⟩;refine PO.g m ?_;have B:u=(KBy.picked v g h).toList.map cG:=by refine t▸?_;rw[KBc.picked_eq];simp only[ay,cF,List.map_take,List.map_drop]
 refine B▸?_;exact .f _ _
theorem Lk(h)(i)(j):Meets (Builtin.«bytes.__getitem__» ⟨[.bytes h i,.ref j],[]⟩) (λ_ b a=>a.heap.IsSliceOf j .none .none (.int (-1) k)/\h.size<=cB/\∀l m,b (.ok (.ret (.bytes h.toList.reverse.toArray l))) {a with toks:=m}):=by
 refine .of_wp λc d f b a e=>?_;refine gz λg n=>?_;refine mj e λo p q=>?_;obtain⟨r,s,t,u⟩:=o;refine n ?_;have v:a.TypeIs (.ref j) "slice":=⟨r,s,t⟩;refine(af (et (a:=h) rfl ?_):az _ _ (Builtin.Bytes.payload (.bytes h i)>>=λw=>_) _ _ a);refine(af ?_:az _ _ (Builtin.Bytes.subscript? (.ref j)>>=λw=>_) _ _ a);refine af (wpAny_specialOf v slice_no_index (au ?_));refine af (wpAny_typeOf v ?_);refine af ?_;refine af (dK (x:=.int (-1) k) s u rfl ?_);kby_int;refine wpAny_ite (KBy.ite_no (show¬((fX (-1)==fX 0)=I)by decide) ?_);refine af (dK (x:=.none) s u rfl ?_);kby_none;refine af (dK (x:=.none) s u rfl ?_);kby_none;refine au ?_;refine af (et (sliceIndices_raw D D (Z (-1)) h.size (by decide)) ?_);rw[krv_bounds];refine wpAny_ite (KBy.ite_no (by simp) ?_);refine af (wpAny_mkBytes (au ⟨_,rfl,?_⟩) ?_)
 ·have x:dU h ((h.size:Int)-1) (-1) (-1)=h.toList.reverse.toArray:=by unfold dU;rw[krv_sliceRange,krv_range,jQ,krv_all]
  refine x▸?_;exact q _ _
 ·have x:dU h ((h.size:Int)-1) (-1) (-1)=h.toList.reverse.toArray:=by unfold dU;rw[krv_sliceRange,krv_range,jQ,krv_all]
  refine x.symm▸?_;simpa using p
theorem Ll{g}(h:VI d i (.f j))(k:HS c d b a)(l:a.heap.IsSliceOf g .none .none (.int (-1) m))(n:j.length<=mE):BT a i/\az (aC c.a c.w) f (d_ i (.ref g)) (PO c e VI d b a (.ok (V.f j.reverse) b)) (PE c e d b a (.ok (V.f j.reverse) b)) a:=by refine mB h.u λo p q r=>?_;subst q;subst r;refine n0 (D4 o p) ?_;refine getItem_meets (jd _ _ _) (by decide) kG ku (j6 _ _) (Lk o p g) ⟨l,(by simp at n;refine m5▸?_;unfold mE at n;exact lk n rfl:o.size<=cB),λs t=>?_⟩;refine PO.g k ?_;refine((by simp:(o.toList.map cG).reverse=(o.toList.reverse.toArray).toList.map cG))▸?_;exact .f _ _
end
end
section
set_option backward.match.sparseCases true
structure Cx(G:Gd)(T:PT)(n:Nat)(l:List bL)(A:aN)(env:bL)(cc:CC):Prop where
 iv:ux G T n
 it:vK G T n
 d:rP G T n
 C:nh G cc
 E:Ev l A env cc
 hd:A.depth+(n+1)<=990
 c:A.units+8*(n+1)<=9000
section
variable{d:Gd}{a:List bL}{j:aN}{c n:Wd}{e o:MS}{f q:am}{k:PT}{m:Nat}{i:CC}{g:bL}{l:Ro}
theorem Cx.ev(b:Cx d k m a j g i)(h:lc p i r=Z s)(n:At d a i g l c e f):kY d a j (bu r g) ((Mine.Internal.kX k m).ev l s) VI c e f:=b.iv h b.C b.E (by have:=b.hd;exact vg this) (by have:=b.c;exact s5 this) n
theorem Cx.b(b:Cx d k m a j g i)(h:lc p i r=Z s)(n:At d a i g l c e f):kY d a j (isTrue r g (bu r g)) ((Mine.Internal.kX k m).b l s) (λ_ t u=>t=u) c e f:=b.it h b.C b.E (by have:=b.hd;exact vg this) (by have:=b.c;exact s5 this) n
theorem Cx.h(b:Cx d k m a j g i)(h:lL (lc r i) s=Z t)(n:At d a i g l c e f):kY d a j (di (bS p (bh s g))) (Mine.Internal.mw (Mine.Internal.kX k m) l t) lx c e f:=Kg b.iv b.C b.E (by have:=b.hd;exact vg this) (by have:=b.c;exact s5 this) h n
theorem Cx.ng(b:Cx d k m a j g i):j.units+8<hW:=by have:=b.c;exact(Y [] [j.units,m] ⟨[2,1],[],[.L (.p .a (.m 8 (.p .b .u))) (.k 9000)],.T (.p .a (.k 8)) (.k 9900)⟩) this
theorem Lm(b:Cx d k m a j g i)(h:lc p i r=Z s)(n:lc p i t=Z u)(o:At d a i g l c e f):kY d a j (bu (.BinOp r v t w) g) (l_ k (kX k m) l (.k v s u)) VI c e f:=by refine kY.bind (b.ev h o) λq x y z A B C E=>?_;refine kY.bind (kY.a (b.ev n (o.d B C))) λF G H J L M N O=>?_;exact kY.d (kY.i (Jj (E.k M.le) O N))
theorem Ln(b:Cx d k m a j g i)(h:lc p i r=Z s)(n:At d a i g l c e f):kY d a j (bu (.UnaryOp t r u) g) (l_ k (kX k m) l (.un t s)) VI c e f:=by induction t with|Not=>refine kY.bind (b.ev h n) λo q v w x y z A=>?_;refine kY.d (kY.a ?_);refine(kY.a (kY.bind (w9 A z) λB C E F G H J L=>?_):kY d a j (bF [o] (gW o>>=λB=>ba (kE (!B)))) _ _ _ _ _);subst L;exact kY.pure J (.h _)|_=>refine kY.bind (b.ev h n) λo q v w x y z A=>?_;exact kY.d (kY.a (Jv A z))
theorem Lp(b:Cx d k m a j g i)(h:lc p i r=Z s)(n:lc p i t=Z u)(o:lc p i v=Z w)(q:At d a i g l c e f):kY d a j (bu (.IfExp r t v x) g) (l_ k (kX k m) l (.o s u w)) VI c e f:=by refine kY.bind (b.b h q) λy z A B C E F G=>?_;induction G;have H:=q.d E F;induction y with|true=>exact b.ev n H|false=>exact b.ev o H
theorem Lq(b:Cx d k m a j g i):∀{h:List aj}{p:List ls}{c:Wd}{e:MS}{f:am},lL (lc r i) h=Z p->At d a i g l c e f->kY d a j (boolOp s t (fg h g)) (match t with|.And=>wW (kX k m) l p|.Or=>wX (kX k m) l p) VI c e f:=by
 intro h;induction h with|nil=>
  intro p c e f n o;refine(oh n)▸?_;induction t<;>exact kY.b|cons q h u=>cases h with|nil=>
  intro p c e f n o;refine lP (nB n) λv w x y z=>?_;refine z▸?_;refine(oh y)▸?_;induction t<;>exact b.ev x o|cons A h=>
  intro p c e f n o;refine lP (nB n) λv w x y z=>?_;cases z;refine lP (nB y) λB C E F z=>?_;subst z;induction t with
  |And=>refine(kY.bind (b.ev x o) λG H J L M N O P=>?_:kY d a j (bu q g>>=λG=>eE s>>=λ_=>bF [G] (gW G)>>=λQ=>match BoolOp.And,Q with|.And,ak|.Or,I=>ba G|_,_=>boolOp s .And (fg (A::h) g)) _ VI c e f);refine kY.d (kY.bind (kY.a (w9 P O)) λQ R S T U V W X=>?_);subst X;induction Q with|true=>exact u y ((o.d N O).d V W)|false=>exact kY.pure W (P.k V.le)
  |Or=>refine(kY.bind (b.ev x o) λG H J L M N O P=>?_:kY d a j (bu q g>>=λG=>eE s>>=λ_=>bF [G] (gW G)>>=λQ=>match BoolOp.Or,Q with|.And,ak|.Or,I=>ba G|_,_=>boolOp s .Or (fg (A::h) g)) _ VI c e f);refine kY.d (kY.bind (kY.a (w9 P O)) λQ R S T U V W X=>?_);induction X;induction Q with|false=>exact u y ((o.d N O).d V W)|true=>exact kY.pure W (P.k V.le)
theorem Lr(a:lc b i h=Z p)(r):behindInMarks r h=ak:=by cases b with|zero=>exact nn a|succ b=>cases h<;>first|rfl|exact nn a
theorem D5:∀(b:List jW){h:List aj}{p:List ls},lL (lc r i) h=Z p->jw b h=ak:=by intro b;induction b with|nil=>intro h p a;simp[jw]|cons c b d=>intro h p a;cases h with|nil=>induction b<;>simp[jw]|cons e h=>refine lP (nB a) λf g j k l=>?_;cases b with|nil=>induction h<;>simp[jw,Lr j]|cons m b=>have:=d k;induction h<;>simpa[jw]using this
theorem Ls(b:BI c h p)(g:HS d c e f):kY d a j (gW h) (M.pure p) (λ_ r s=>r=s) c e f:=by have:h=.bool p:=b;refine this▸?_;exactλ_=>gh (PO.a g rfl)
theorem kY.release{s t:Type}{u:Wd->s->t->Prop}{v:Unit->gF s}{w:M t}(b:kY d a j (v ()) w u c e f):kY d a j (release x y>>=v) w u c e f:=λg=>af (eX (b g))
theorem xl{b h p:Type}(r:M b)(s:b->M h)(t:h->M p):M.bind (M.bind r s) t=M.bind r λu=>M.bind (s u) t:=by funext e;unfold M.bind;cases r e<;>rfl
theorem D6(b:Cx d k m a j g i){h}{p}{r}{s}{t:Type}{u:Type}{v:Wd->u->t->Prop}{w:ap->ap->gF u}{x:V->Bool->M t}(n:lc h i r=Z y)(o:VI c z s)(q:At d a i g l c e f)(A:∀B C E F G H,Gr (lB a) (li f.heap) c e f F G H->VI F B C->At d a i g l F G H->kY d a j (w B (.bool E)) (x C E) v F G H):kY d a j (bF [z] (bu r g)>>=λJ=>eE L>>=λ_=>bF [z,J] (cD p z J)>>=λN=>release [z,J] [N]>>=λ_=>w J N) (M.bind ((kX k m).ev l y) λC=>M.bind (mz p s C) λN=>x C N) v c e f:=by refine kY.bind (kY.a (b.ev n q)) λB C F G H O P Q=>kY.d (kY.bind (kY.a (zQ b.ng (o.k O.le) Q P)) λN E R S T U W X=>kY.release ?_);have:N=.bool E:=X;refine this▸?_;exact A B C E R S T (O.j U O.i) (Q.k U.le) ((q.d O P).d U W)
theorem kY.r(b:kY d a j s t BI c e f):kY d a j s (M.bind t λu=>M.pure (V.h u)) VI c e f:=λg=>b.h g (λh i o n q k _ l m p=>⟨_,o,n,k,l,m,by refine(show h=.bool i from p)▸?_;exact .h i⟩) λ_ _ r=>r
theorem Lu(b)(h)(p)(r)(s:gF ap)(t)(a:¬(r=[]/\t=[])):g9 b h (p::r) (s::t)=(bF [h] s>>=λu=>eE b>>=λ_=>bF [h,u] (cD p h u)>>=λv=>release [h,u] [v]>>=λ_=>bF [v,u] (gW v)>>=λw=>if w then g9 b u r t else ba v):=by cases r<;>cases t<;>first|rfl|exact absurd ⟨rfl,rfl⟩ a
theorem Lv(b)(h)(p)(r)(s:gF ap)(t)(a:¬(r=[]/\t=[])):jx b h (p::r) (s::t)=(bF [h] s>>=λu=>eE b>>=λ_=>bF [h,u] (cD p h u)>>=λv=>release [h,u] [v]>>=λ_=>bF [v,u] (gW v)>>=λw=>if w then jx b u r t else ba ak):=by cases r<;>cases t<;>first|rfl|exact absurd ⟨rfl,rfl⟩ a
theorem D7(a)(l)(b)(h)(p)(r)(s)(c:¬(p=[]/\s=[])):qw a l b (h::p) (r::s)=M.bind (a.ev l r) λt=>M.bind (mz h b t) λu=>bif u then qw a l t p s else M.pure ak:=by cases p<;>cases s<;>first|rfl|exact absurd ⟨rfl,rfl⟩ c
theorem xm{b h:Type}{p:b->Option h}:∀{a:List b}{r:List h},lL p a=Z r->a.length=r.length:=by intro c;induction c with|nil=>intro _ d;refine(oh d)▸?_;rfl|cons e f g=>intro _ d;refine lP (nB d) λi j _ k l=>?_;refine l▸?_;refine ah bE ?_;refine ah ?_ List.length_cons.symm;exact congrArg _ (g k)
theorem Lw(b:Cx d k m a j g i){h}:∀{p:List jW}{r:List aj}{s:List ls}{t:ap}{u:V}{c:Wd}{e:MS}{f:am},lL (lc h i) r=Z s->VI c t u->At d a i g l c e f->kY d a j (g9 v t p (fg r g)) (qw (kX k m) l u p s) BI c e f:=by
 intro n;induction n with|nil=>
  intro r s t u c e f o q w;induction s<;>exact kY.b|cons x p y=>
  intro z;cases z with|nil=>
   intro s t u c e f o q w;refine(oh o)▸?_;induction p<;>exact kY.b|cons A r=>
   intro s t u c e f o q w;refine lP (nB o) λa0 B C E F=>?_;subst F;by_cases G:p=[]/\r=[];·refine lA G λF H=>?_;subst F;subst H;refine(oh E)▸?_;refine kY.bind (kY.a (b.ev C w)) λJ L N O a3 P a4 Q=>kY.d (kY.i ?_);exact zQ b.ng (q.k P.le) Q a4
   ·have a5:¬(p=[]/\B=[]):=λR=>G ⟨R.1,by have:=xm E;rw[R.2]at this;exact iQ this⟩;have a6:¬(p=[]/\fg r g=[]):=λR=>G ⟨R.1,by induction r with|nil=>rfl|cons _ _=>cases R.2⟩;show kY d a j (g9 v t (x::p) (bu A g::fg r g)) _ BI c e f;refine(Lu _ _ _ _ _ _ a6)▸?_;rw[D7 _ _ _ _ _ _ _ a5];refine D6 b (w:=λS T=>bF [T,S] (gW T)>>=λU=>if U then g9 v S p (fg r g)else ba T) (x:=λL T=>bif T then qw (kX k m) l L p B else M.pure ak) C q w λJ L U N O a3 P Q W=>?_;refine kY.eq ?_ rfl;intro X;refine af (aT (gh ?_));induction U with|true=>exact y E Q W X|false=>exact kY.pure (Rel:=BI) W.H rfl X
theorem Lx(b:Cx d k m a j g i){h}:∀{p:List jW}{r:List aj}{s:List ls}{t:ap}{u:V}{c:Wd}{e:MS}{f:am},lL (lc h i) r=Z s->VI c t u->At d a i g l c e f->kY d a j (jx v t p (fg r g)) (qw (kX k m) l u p s) (λ_ w x=>w=x) c e f:=by
 intro n;induction n with|nil=>
  intro r s t u c e f o q y;induction s<;>exact kY.b|cons z p A=>
  intro B;cases B with|nil=>
   intro s t u c e f o q y;refine(oh o)▸?_;induction p<;>exact kY.b|cons C r=>
   intro s t u c e f o q y;refine lP (nB o) λE F G H J=>?_;subst J;by_cases L:p=[]/\r=[];·refine lA L λJ N=>?_;subst J;subst N;refine(oh H)▸?_;refine(kY.bind (kY.a (b.ev G y)) λO P a0 Q a3 R a4 S=>kY.d ?_:kY d a j (jx v t [z] [bu C g]) (M.bind ((kX k m).ev l E) λw=>mz z u w) _ c e f);refine kY.e (m':=M.bind (mz z u P) λw=>M.pure w) ?_ (by unfold M.bind;cases mz z u P Q<;>rfl);refine kY.bind (kY.i (zQ b.ng (q.k R.le) S a4)) λx w a5 a6 a7 a8 a9 b0=>kY.a (Ls b0 a9)
   ·have b1:¬(p=[]/\F=[]):=λT=>L ⟨T.1,by have:=xm H;rw[T.2]at this;exact iQ this⟩;have b2:¬(p=[]/\fg r g=[]):=λT=>L ⟨T.1,by induction r with|nil=>rfl|cons _ _=>cases T.2⟩;refine(Lv _ _ _ _ _ _ b2)▸?_;rw[D7 _ _ _ _ _ _ _ b1];refine D6 b (w:=λU x=>bF [x,U] (gW x)>>=λw=>if w then jx v U p (fg r g)else ba ak) (x:=λP x=>bif x then qw (kX k m) l P p F else M.pure ak) G q y λO P w a0 Q a3 R S W=>?_;intro X;refine af (aT (gh ?_));induction w with|true=>exact A H S W X|false=>exact kY.pure (Rel:=λ_ w x=>w=x) W.H rfl X
theorem Ly(b:Cx d k m a j g i)(h:lc p i r=Z s)(n:lL (lc p i) t=Z u)(o:At d a i g l c e f):kY d a j (bu (.Compare r v t w) g) (l_ k (kX k m) l (.n s v u)) VI c e f:=by rw[arm_eval_Compare,markedEach_of_false _ _ _ (D5 _ n)];refine kY.bind (b.ev h o) λq x y z A B C E=>?_;exact kY.r (Lw b n E (o.d B C))
theorem Lz(b:Cx d k m a j g i)(h:lc p i r=Z s)(n:lL (lc p i) t=Z u)(o:At d a i g l c e f):kY d a j (isTrue (.Compare r v t w) g x) (tj (kX k m) l (.n s v u)) (λ_ y z=>y=z) c e f:=by rw[arm_isTrue_Compare,markedEach_of_false _ _ _ (D5 _ n)];refine kY.bind (b.ev h o) λq A B C E F G H=>?_;exact Lx b n H (o.d F G)
theorem D8(b:Cx d k m a j g i)(h:lL (lc p i) r=Z s)(n:At d a i g l c e f):kY d a j (bu (.BoolOp t r u) g) (l_ k (kX k m) l (match t with|.And=>.d s|.Or=>.g s)) VI c e f:=by have:=Lq b (s:=u) (t:=t) h n;induction t<;>exact this
theorem D9(b:Cx d k m a j g i):∀{h:List aj}{p:List ls}{c:Wd}{e:MS}{f:am},lL (lc r i) h=Z p->At d a i g l c e f->kY d a j (allTrue s h g) (match s with|.And=>oZ (kX k m) l p|.Or=>qv (kX k m) l p) (λ_ t u=>t=u) c e f:=by
 intro n
 induction n with|nil=>
  intro p c e f o q;refine(oh o)▸?_;induction s;·exact kY.pure q.H rfl
  ·exact kY.pure q.H rfl|cons v h w=>
  intro p c e f o q;refine lP (nB o) λx y z A B=>?_;refine B▸?_;induction s with
  |And=>refine(kY.bind (b.b z q) λC E F G H J L N=>?_:kY d a j _ (M.bind ((kX k m).b l x) λt=>bif t then oZ (kX k m) l y else M.pure ak) _ c e f);subst N;induction C with|true=>exact w A (q.d J L)|false=>exact kY.pure L rfl
  |Or=>refine(kY.bind (b.b z q) λC E F G H J L N=>?_:kY d a j _ (M.bind ((kX k m).b l x) λt=>bif t then M.pure I else qv (kX k m) l y) _ c e f);induction N;induction C with|false=>exact w A (q.d J L)|true=>exact kY.pure L rfl
end
end
section
structure TF(G:Gd)(T:PT):Prop where
 e:∀C n,T.e C n=I->zS G C n
 g:∀C n,T.g C n=I->zU G C n
 d:∀a l,T.d a=Z l->vM G a l
 b:DW G T
 c:∀C n f,T.h C n=Z f->CQ G C n f/\eF G.K (.ref f)=I
 h:∀f fn,T.fn f=Z fn->eF G.K (.ref f)=I
section
variable{a:Gd}{g:List bL}{h:aN}{f n:Wd}{c o:MS}{b k:am}{j:PT}{l:Nat}{i:CC}{d:bL}{m:Ro}{q r s p:Type}
theorem kY.cps{t:gF q}{u:M r}{v:Wd->q->r->Prop}{w:q->gF s}{x:r->M p}{y:Wd->s->p->Prop}(d:kY a g h t u v f c b)(e:∀z A n o k,Gr (lB g) (li b.heap) f c b n o k->HS a n o k->v n z A->kY a g h (w z) (x A) y n o k)(i:M.bind u x c≠.b):az (aC a.a a.w) h t (λz k=>a.K.In k.heap/\az (aC a.a a.w) h (w z) (PO a g y f c b (M.bind u x c)) (PE a g f c b (M.bind u x c)) k) (PE a g f c b (M.bind u x c)) b:=by exact d.h i (λz A o n k j l m B C=>⟨B.K,by refine j▸?_;exact aK (e z A n o k m B C l) (λ_ _ E=>E.b m) λ_ _ E=>E.b m⟩) λ_ _ E=>E
theorem Am:∀{e:List aj}{t:List ls},lL (lc u i) e=Z t->(bS v (bh e d)).any (·.1)=ak:=by intro a;induction a with|nil=>intro _ _;exact rfl|cons b e c=>intro _ f;refine lP (nB f) λg h j k l=>?_;cases l;rw[rQ j];refine(c k).symm▸?_;rfl
noncomputable def uy(a:Gd)(b:ap):Prop:=∀c,a.K.In c->∃d,(d=Keeper.frame\/d=i6\/d=Keeper.boundFrame)/\j3 (aC a.a a.w) c (keeperOf b) d
theorem uz(b):uy a (.builtin b):=λc _=>⟨.machine,.inr (.inl rfl),(Looks.now:j3 _ c (ba i6) _)⟩
theorem xp(b):uy a (.type b):=λc _=>⟨.machine,.inr (.inl rfl),(Looks.now:j3 _ c (ba i6) _)⟩
theorem vO(b:eF a.K (.ref e)=I):uy a (.ref e):=keeps_K b
theorem uA(e:Cx a j l g h d i){t}{u:List V->M p}{v:Wd->ap->p->Prop}(q:uy a w)(r:lL (lc x i) y=Z z)(s:At a g i d m f c b)(A:∀B C n o k,Gr (lB g) (li b.heap) f c b n o k->At a g i d m n o k->lx n B C->kY a g h (bI w (t++B)) (u C) v n o k):kY a g h (jg E w t (bS E (bh y d)) []) (M.bind (mw (kX j l) m z) u) v f c b:=λF=>by cases y with|nil=>have G:=oh r;subst G;exact dL (P:=a.K.In) rfl q (evalArgs_nil3 ⟨s.H.K,A [] [] f c b (Gr.c f c b) s .c F⟩)|cons G y=>have H:=kY.cps (w:=λB=>bI w (t++B)) (e.h (p:=E) r s) (λB C n o k J L N=>A B C n o k J (s.d J L) N) F;have O:=Am (d:=d) (v:=E) r;refine lP (nB r) λP Q R S T=>?_;subst T;rw[(by rw[rQ R];rfl:bS E (bh (G::y) d)=(ak,bu G d)::bS E (bh y d))]at H O⊢;exact dL (by refine O.symm▸?_;rfl) q (dm H)
theorem Cx.e(b:Cx a j l g h d i):h.handled=D:=b.E.d
theorem D_(a:rN e=I)(t)(u:gF ap):attributeBase e t d u=u:=by cases e<;>first|rfl|cases a
theorem kY.letGo(d:kY a g h t u VI f c b):kY a g h (t>>=λv=>letTemporaryGo w x v>>=λ_=>ba v) u VI f c b:=λe=>af (aK (d e) (λi k j=>af (iu (au j))) λ_ _ w=>w)
theorem LB(e:TF a j)(k:Cx a j l g h d i)(n:rN t=I)(o:lc u i t=Z v)(p:i.id w=Z x)(q:At a g i d m f c b):kY a g h (bu (.Attribute t w y) d) (l_ j (kX j l) m (.q v x)) VI f c b:=by rw[arm_eval_Attribute,D_ n];refine kY.bind (k.ev o q) λr s z A B C E F=>kY.d (kY.letGo (kY.a ?_));have:=k.C.d _ _ p;refine this▸?_;exact CT e.e F E
theorem LG(d:lx f e t)(i:HS a f c b):kY a g h (newList e) (if t.length<=4096 then M.pure (.c t)else M.b) VI f c b:=kY.f λj _=>eW (PO.c i rfl λk l=>.c l rfl rfl (d.k k)) (by rw[d.a,m5];exact lk j rfl)
theorem LH(d:lx f e t)(i:HS a f c b):kY a g h (newTuple e) (if t.length<=4096 then M.pure (.e t)else M.b) VI f c b:=kY.f λj _=>j0 (PO.c i rfl λk l=>.e l rfl rfl (d.k k)) (by rw[d.a,m5];exact lk j rfl)
theorem LI(e:Cx a j l g h d i)(k:lL (lc t i) u=Z v)(n:At a g i d m f c b):kY a g h (bu (.List u w) d) (l_ j (kX j l) m (.c v)) VI f c b:=by exact kY.d (kY.bind (e.h k n) λo p q r s x y z=>LG z y)
theorem PO.alloc(d:HS a f c b)(e:u=.ref v)(h:li b.heap<=v)(i:∀v w,b.heap.get? v=Z w->x.get? v=Z w)(j:li b.heap<=li x)(k:MR a (f.p v) x v y):PO a g VI f c b (.ok (.b c.σ.length) ⟨c.σ++[y],c.mu⟩) u {b with heap:=x,toks:=z}:=by subst e;refine⟨_,_,f.p v,rfl,(Gr.h i j).j (Gr.p (s:={b with heap:=x,toks:=z}) h) (al _),(d.h i).p (s:={b with heap:=x,toks:=z}) k (d.r h) (d.i h) (aF d.c h:1<v),.b ?_⟩;refine(cO (by rw[d.b];exact al _)).symm▸?_;refine d.b.symm▸?_;rw[gn];rfl
theorem Ea(e:At a g i d m f c b):∀l,kY a g h (bu (.List [] t) d) ((kX j l).ev m .h) VI f c b:=by intro k;induction k with|zero=>exact kY.b|succ l n=>refine kY.d λ_=>?_;refine af (au (eW ?_ (bv _)));exact PO.alloc (y:=.c []) e.H rfl (pW _) (λo p q=>av _ q) (by unfold li;rw[aV];exact aL _) ⟨[],⟨0,aU _ rfl⟩,.c⟩
theorem LJ(e:At a g i d m f c b):kY a g h (bu (.Dict [] [] t) d) (l_ j (kX j l) m .i) VI f c b:=by refine kY.d λ_=>?_;refine(gj ?_ (bv _):az _ h (newDict) _ _ b);exact PO.alloc (y:=.m []) e.H rfl (pW _) (λk n o=>av _ o) (by unfold li;rw[aV];exact aL _) ⟨[],Heap.DictOf.new _,.c⟩
noncomputable abbrev Ao(a:Nat)(i:CC):aj->Option ls:=z8 (lc a i)
theorem Eb(a:Ao e i t=Z u):(∃v,t=.List [] v/\u=.h)\/lc e i t=Z u:=by have a:(bif uv t then Z .h else lc e i t)=Z u:=a;cases b:uv t with|true=>rw[b]at a;exact .inl (lp (z7 b) λv t=>⟨v,t,(aa a).symm⟩)|false=>replace a:=b▸a;exact .inr a
theorem LL(e:Cx a j l g h d i):∀{t:List aj}{u:List ls}{f:Wd}{c:MS}{b:am},lL (Ao v i) t=Z u->At a g i d m f c b->kY a g h (di (bS w (bh t d))) (mw (kX j l) m u) lx f c b:=by intro p;induction p with|nil=>intro u f c b q r;refine(oh q)▸?_;exact kY.pure r.H .c|cons s t x=>intro u f c b q r;refine lP (nB q) λy z A B C=>?_;cases C;refine((by refine((Eb A).elim (λE=>ll E λw F _=>by refine F▸?_;rfl) λq=>rQ q _:bh (s::t) d=(ak,bu s d)::bh t d)▸?_;rfl:bS w (bh (s::t) d)=(ak,bu s d)::bS w (bh t d)))▸?_;refine((by rfl:di ((ak,bu s d)::bS w (bh t d))=(bu s d>>=λG=>(ba [G]>>=λH=>bF H (di (bS w (bh t d)))>>=λJ=>ba (H++J)))))▸?_;refine kY.bind ((Eb A).elim (λE=>ll E λw F L=>by refine F▸?_;refine L▸?_;exact Ea r l) λq=>e.ev q r:kY a g h (bu s d) ((kX j l).ev m y) VI f c b) λG M n o k N O P=>?_;refine(kY.bind (kY.a (x B (r.d N O))) λJ Q R S T U V W=>?_:kY a g h (bF [G] (di (bS w (bh t d)))>>=λJ=>ba ([G]++J)) _ _ _ _ _);exact kY.pure V (.b (P.k U.le) W)
theorem LM(e:Cx a j l g h d i)(k:lL (Ao t i) u=Z v)(n:At a g i d m f c b):kY a g h (bu (.Tuple u w x) d) (l_ j (kX j l) m (.e v)) VI f c b:=by exact kY.d (kY.bind (LL e k n) λo p q r s y z A=>LH A z)
end
end
section
noncomputable def OV(a:Wd)(b:ap):Option V->Prop|D=>b=.none|some c=>VI a b c
theorem OV.k{W W':Wd}(a:W.le W'){b}:∀{c:Option V},OV W b c->OV W' b c|D,d=>d|some _,d=>VI.k a d
section
variable{h:Gd}{c:List bL}{l:aN}{b m:Wd}{k o:MS}{i p:am}{a:PT}{g:Nat}{j:CC}{f:bL}{e:Ro}{n s t u:Type}
inductive Ec(b:Wd)(v:ap)(d:Option V×Option V):Prop|mk(sl:aS)(q r:ap)(h1:v=.ref sl)(h2:b.φ sl=Z {cls:=.type "slice",data:=.fields #[q,r,.none]})(h3:OV b q d.1)(h4:OV b r d.2)
noncomputable def Ed(b:Wd)(a:ap)(_:Unit):Prop:=∃c d,a=.ref c/\b.φ c=Z {cls:=.type "slice",data:=.fields #[.none,.none,.int (-1) d]}
theorem LO(a:lc d j q=Z r)(v w):∃x,subscripted q ak v w=operate x (d_ v w):=by cases d with|zero=>exact nn a|succ d=>cases q<;>first|exact mf _ rfl|exact nn a
theorem LP(d:TF h a)(m:Cx h a g c l f j)(n:lc q j r=Z v)(o:lc q j w=Z x)(p:At h c j f e b k i):kY h c l (bu (.Subscript r w y) f) (l_ a (kX a g) e (.j v x)) VI b k i:=by refine kY.bind (m.ev n p) λs t u z A B C E=>?_;refine kY.bind (kY.a (m.ev o (p.d B C))) λF G H J L M N O=>kY.d ?_;exact Al (LO o _ _) (Lg d.d (E.k M.le) O N)
noncomputable def rR(a:nq)(e:Ro):Option ls->M (Option V)|some d=>M.bind (a.ev e d) λb=>M.pure (Z b)|D=>M.pure D
theorem Ee(d:Cx h a g c l f j){q:Nat}{r}(n:match r,v with|D,D=>True|some r,some v=>lc q j r=Z v|_,_=>False)(s:At h c j f e b k i):kY h c l (fh (ji r f)) (rR (kX a g) e v) OV b k i:=by
 induction r with
 |none=>induction v with|none=>exact kY.pure s.H rfl|some _=>induction n
 |some r=>induction v with|none=>induction n|some v=>exact(λt=>(d.ev n s).h t (λu w o m p r _ x y z=>⟨Z w,o,m,r,x,y,z⟩) λ_ _ A=>A:kY h c l (bu r f) (M.bind ((kX a g).ev e v) λB=>M.pure (Z B)) OV b k i)
theorem xq{d}(a:OV b d q):(q=D->jv d D)/\(∀r,q=Z (.a r)->jv d (Z r)):=by
 refine n0 (λc=>?_) (λr c=>?_);·cases c;have:d=.none:=a;refine this▸?_;exact .none
 ·subst c;refine lp (VI.j a) λe f=>?_;refine f▸?_;exact .int _ _
theorem Ap(a:0<=d):fy g d=min d.toNat g:=by refine lp (dV a) λb c=>?_;cases c;exact clipAt_nat g b
theorem Ef{n:Type}{d q:List n}(a:wU d r=Z q):d.length<=mE/\q=(d.drop 0).take (fy d.length r-0):=by unfold wU at a;cases b:aE (0<=r)&&aE (d.length<=mE)with|false=>rw[b]at a;exact nn a|true=>rw[b]at a;refine(aa a)▸?_;refine lA (Bool.and_eq_true_iff.mp b) λc e=>?_;refine⟨of_decide_eq_true e,?_⟩;refine(Ap (of_decide_eq_true c))▸?_;exact j7
theorem Eg{n:Type}{d q:List n}(a:zI d r v=Z q):d.length<=mE/\q=(d.drop (fy d.length r)).take (fy d.length v-fy d.length r):=by
 unfold zI at a;cases b:aE (0<=r)&&aE (0<=v)&&aE (d.length<=mE)with|false=>rw[b]at a;exact nn a|true=>
  rw[b]at a;refine(aa a)▸?_;refine lA (Bool.and_eq_true_iff.mp b) λc e=>?_;refine lA (Bool.and_eq_true_iff.mp c) λf c=>?_;refine⟨of_decide_eq_true e,?_⟩;rw[Ap (of_decide_eq_true f),Ap (of_decide_eq_true c),j7,List.drop_take];by_cases g:r.toNat<=d.length;·exact(Nat.min_eq_left g).symm▸rfl
  ·have g:=Nat.le_of_not_le g;refine ah (congrArg _ (List.drop_eq_nil_of_le g)) ?_;rw[Nat.min_eq_right g,f8,List.take_nil,List.take_nil]
theorem Eh{n:Type}{d q:Option V}{r v:List n}(a:n7 d q r=Z v):r.length<=mE/\∃c w,(∀(b:Wd)(x:ap),OV b x d->jv x c)/\(∀(b:Wd)(x:ap),OV b x q->jv x w)/\v=(r.drop (c.elim 0 (fy r.length))).take (w.elim r.length (fy r.length)-c.elim 0 (fy r.length)):=by induction q with|none=>exact nn a|some q=>induction d with|none=>refine ll (zF a) λe f a=>?_;refine f▸?_;exact⟨(Ef a).1,D,Z e,λb x a=>(xq a).1 rfl,λb x a=>(xq a).2 e rfl,(Ef a).2⟩|some d=>refine ll (zF a) λe f a=>?_;cases f;refine ll (zF a) λg f a=>?_;refine f▸?_;exact⟨(Eg a).1,Z e,Z g,λb x a=>(xq a).2 e rfl,λb x a=>(xq a).2 g rfl,(Eg a).2⟩
theorem Ei(d:Cx h a g c l f j){q:Nat}{r}{m v}(a0:lc q j r=Z w)(a3:match m,x with|D,D=>True|some y,some z=>lc q j y=Z z|_,_=>False)(a4:match v,A with|D,D=>True|some y,some z=>lc q j y=Z z|_,_=>False)(n:At h c j f e b k i):kY h c l (bu (.Subscript r (.Slice m v D a5) a6) f) (l_ a (kX a g) e (.a w x A)) VI b k i:=by
 have a7:l_ a (kX a g) e (.a w x A)=M.bind ((kX a g).ev e w) λo=>M.bind (rR (kX a g) e x) λr=>M.bind (rR (kX a g) e A) λp=>match o with|.c B=>M.c ((n7 r p B).map .c)|.f C=>M.c ((n7 r p C).map .f)|_=>M.b:=by induction x<;>induction A<;>rfl
 refine a7▸?_;refine kY.bind (d.ev a0 n) λo s a8 a9 b0 b1 b2 b3=>?_;have t:=n.d b1 b2;have b4:kY h c l (bF [o] (fh (ji m f)>>=λc=>bF [c] (fh (ji v f))>>=λu=>bF [c,u] (fh (ji D f))>>=λi=>newFields "slice" [c,u,i])) (M.bind (rR (kX a g) e x) λr=>M.bind (rR (kX a g) e A) λp=>M.pure (r,p)) Ec a8 a9 b0:=by refine kY.a (kY.bind (Ee d a3 t) λE r b5 b6 F G H J=>kY.bind (kY.a (Ee d a4 (t.d G H))) λL p c1 c2 c3 c4 c5 N=>?_);intro _;refine af (aT (au ?_));refine gj ?_ (by show 3<=_;rw[m5];decide);exact PO.c (Rel:=Ec) (r:=c3.toks) c5 rfl λO c6=>⟨_,E,L,rfl,c6,(J.k c4.le).k O,N.k O⟩
 have d0:(M.bind (rR (kX a g) e x) λr=>M.bind (rR (kX a g) e A) λp=>match s with|.c B=>M.c ((n7 r p B).map V.c)|.f C=>M.c ((n7 r p C).map V.f)|_=>M.b)=M.bind (M.bind (rR (kX a g) e x) λr=>M.bind (rR (kX a g) e A) λp=>M.pure (r,p)) λP=>match s with|.c B=>M.c ((n7 P.1 P.2 B).map V.c)|.f C=>M.c ((n7 P.1 P.2 C).map V.f)|_=>M.b:=by rw[xl];congr 1;funext r;rw[xl];rfl
 refine d0▸?_;refine kY.bind b4 λd1 P b5 b6 F G H v=>kY.d ?_;obtain⟨d2,E,L,rfl,d3,J,N⟩:=v;refine Al ⟨_,rfl⟩ λQ=>?_;have R:F.heap.IsSliceOf d2 E L .none:=⟨_,H.j _ _ d3,rfl,rfl⟩;have d4:=b3.k G.le;cases s with
 |c B=>cases y:n7 P.1 P.2 B with|none=>simp only[y]at Q;exact absurd rfl Q|some d5=>refine lA (Eh y) λS T=>lP T λd6 d7 U W X=>?_;simp only[y,gc];exact Li d4 H R (U _ _ J) (W _ _ N) S X
 |f C=>cases y:n7 P.1 P.2 C with|none=>simp only[y]at Q;exact absurd rfl Q|some d5=>refine lA (Eh y) λS T=>lP T λd6 d7 U W X=>?_;simp only[y,gc];exact Lj d4 H R (U _ _ J) (W _ _ N) S X
 |_=>exact absurd rfl Q
theorem LR(d:Cx h a g c l f j)(m:lc q j r=Z v)(n:At h c j f e b k i):kY h c l (bu (.Subscript r (.Slice D D (Z (.UnaryOp .USub (.Constant (.int 1) w x) y)) z) A) f) (l_ a (kX a g) e (.t v)) VI b k i:=by
 refine kY.bind (d.ev m n) λo p s t u B C E=>?_;have F:kY h c l (bF [o] (fh (ji D f)>>=λc=>bF [c] (fh (ji D f))>>=λG=>bF [c,G] (fh (ji (Z (.UnaryOp .USub (.Constant (.int 1) w x) y)) f))>>=λi=>newFields "slice" [c,G,i])) (M.pure ()) Ed s t u:=by refine kY.a λ_=>?_;refine af (au (af (aT (au (af (aT ?_))))));refine(af ?_:az _ l (bu (.UnaryOp .USub (.Constant (.int 1) w x) y) f) _ _ u);refine wpAny_mkInt (af (bC (aT (i4 ?_))));refine gj ?_ (by show 3<=_;rw[m5];decide);exact PO.c (Rel:=Ed) C rfl λH J=>⟨_,_,rfl,J⟩
 cases p with|f L=>
  refine kY.e (m':=M.bind (M.pure ()) λ_=>if L.length<=mE then M.pure (V.f L.reverse)else M.b) ?_ rfl;refine kY.bind F λa0 a3 a4 a5 N O P Q=>kY.d ?_;refine mB Q λR S T U=>?_;refine T▸?_;refine Al ⟨_,rfl⟩ λW=>?_;by_cases X:L.length<=mE;·simp only[X,if_true];exact Ll (E.k O.le) P (⟨_,P.j _ _ U,rfl,rfl⟩:N.heap.IsSliceOf R .none .none (.int (-1) S)) X
  ·simp only[X,if_false]at W;exact absurd rfl W|_=>exact kY.b
theorem LS(d:At h c j f e b k i):kY h c l (bu (.Constant .none q r) f) (l_ a (kX a g) e (.f .g)) VI b k i:=kY.pure d.H .g
theorem LU(d:At h c j f e b k i):kY h c l (bu (.Constant (.bool q) r v) f) (l_ a (kX a g) e (.f (.h q))) VI b k i:=kY.pure d.H (.h q)
theorem LW(d:At h c j f e b k i):kY h c l (bu (.Constant (.int q) r v) f) (l_ a (kX a g) e (.f (.a q))) VI b k i:=λ_=>by exact wpAny_mkInt (PO.g d.H (.a _ _))
theorem LX(d:At h c j f e b k i):kY h c l (bu (.Constant (.str q) r v) f) (l_ a (kX a g) e (.f (.d q.cps.toList))) VI b k i:=λ_=>dh (PO.g d.H (show VI b (.str ⟨q.cps⟩ _) (.d q.cps.toList)by have:=VI.d (W:=b) q.cps.toList i.toks;simpa using this))
theorem LY(a:zK d q r k≠.b):r=.a 1:=by
 cases r with|a b=>
  by_cases c:b=1;·exact congrArg _ c
  ·exact absurd (by show(bif aE (b=1)then _ else M.b) k=_;refine(decide_eq_false c)▸?_;rfl) a|_=>exact absurd rfl a
theorem LZ(d:Cx h a g c l f j)(n:lc q j r=Z v)(s:At h c j f e b k i)(t:w.cps.size<=1000):kY h c l (bu (.JoinedStr [.FormattedValue r (-1) D x,.Constant (.str w) y z] A) f) (l_ a (kX a g) e (.v [] v w.cps.toList)) VI b k i:=by
 intro u;refine eG (j8 ((d.ev n s).h (g:=zK [] w.cps.toList) u (λB C o m p E F G H J=>?_) λ_ _ L=>L));obtain rfl:=LY F;refine(show l_ a (kX a g) e (.v [] v w.cps.toList) k=_ from E)▸?_;refine lp J.j λM N=>?_;subst N;refine wpAny_formatField_int (by decide) ?_;have O:jR++(jj (1:Int):aX)=⟨#[49]⟩:=by rfl
 refine⟨by decide,?_⟩;refine eG (dh ?_);have P:((⟨#[49]⟩:aX)++w).length<=cB:=by rw[fR,m5];exact ao (eY t 1) (by decide)
 refine⟨P,joinParts_nil ?_ P⟩;have Q:VI m (.str ((⟨#[49]⟩:aX)++w) (p.toks+1+1+1)) (V.d ([]++[49]++w.cps.toList)):=by
  have R:=VI.d (W:=m) ([49]++w.cps.toList) (p.toks+1+1+1);have S:(⟨([49]++w.cps.toList).toArray⟩:aX)=(⟨#[49]⟩:aX)++w:=by show(⟨([49]++w.cps.toList).toArray⟩:aX)=⟨#[49]++w.cps⟩;simp
  rw[S]at R;exact R
 exact⟨_,o,m,rfl,G.j (Gr.g m o p _) G.i,H.g _,Q⟩
end
end
section
noncomputable def xt:s_->ap|.b=>.builtin "len"|.abs=>.builtin "abs"|.sum=>.builtin "sum"|.min=>.builtin "min"|.d=>.builtin "divmod"|.s=>.builtin "isinstance"|.a=>.type "int"|.h=>.type "bool"|.f=>.type "bytes"|.c=>.builtin "sorted"|.u=>.type "list"
noncomputable abbrev Ej:List aX:=["len","abs","sum","min","divmod","int","bool","bytes","sorted","isinstance","list","range","enumerate"]
theorem L1:∀a∈CV,a.1∈Ej/\fK a.1=Z (xt a.2)/\a.1≠"__name__"/\(a.1==("__debug__":aX))=ak/\a.2≠.s/\a.2≠.u:=by decide+kernel
theorem L_(a:zY b=Z c):b∈Ej/\fK b=Z (xt c)/\b≠"__name__"/\(b==("__debug__":aX))=ak/\c≠.s/\c≠.u:=L1 _ (kx a)
section
variable{b:Gd}{i:List bL}{k:aN}{e o:Wd}{a p:MS}{m q:am}{h:PT}{j:Nat}{g:CC}{d:bL}{n:Ro}{t r u s:Type}
theorem Ma(c):uy b (xt c):=by induction c<;>first|exact uz _|exact xp _
theorem Mb(c:f≠.s)(d:f≠.u)(g:k.handled=D)(h:lx e l v)(j:HS b e a m):kY b i k (bI (xt f) l) (l6 f v) VI e a m:=by induction f with|b=>exact kY.a1 h λ_ _ n=>Kh n j|abs=>exact kY.a1 h λ_ _ n=>Kj n j|sum=>exact kY.a1 h λ_ _ n=>Kl g n j|min=>exact kY.a2 h λ_ _ _ _ n o=>Kn g n o j|d=>exact kY.a2 h λ_ _ _ _ n o=>Ko n o j|s=>exact absurd rfl c|a=>exact kY.a1 h λ_ _ n=>Kr n j|h=>exact kY.a1 h λ_ _ n=>Ks n j|f=>exact kY.a1 h λ_ _ n=>Ku g n j|c=>exact kY.a1 h λ_ _ n=>KN n j|u=>exact absurd rfl d
theorem Mc(c)(f)(l)(v):bu (.Call (.Name c f) l [] v) d=(bu (.Name c f) d>>=λw=>jg v w [] (bS v (bh l d)) []):=rfl
theorem Md(a:g.l6 c=Z f):g.sc.lookup c=Z .globalImplicit/\g.e c=D/\zY c=Z f:=by exact lR a λb d a=>mI a λe a=>mI a λh a=>⟨zX e▸d,Option.isNone_iff_eq_none.mp h,a⟩
theorem vQ(a:g.f c f=I):g.sc.lookup c=Z .globalImplicit/\g.e c=D/\c=bN f:=by exact lC a λb a=>lC a λd e=>ll ((eV _ _).mp d) λh i j=>⟨zX j▸i,Option.isNone_iff_eq_none.mp b,aG e⟩
theorem Me(c:Cx b h j i k d g)(f:g.l6 l=Z v)(r:lL (lc w g) x=Z y)(s:At b i g d n e a m):kY b i k (bu (.Call (.Name l z) x [] A) d) (l_ h (kX h j) n (.l6 v y)) VI e a m:=λt=>by refine mj (Md f) λu B C=>?_;refine sX (L_ C) λE F G H J L=>?_;refine af (uw c.C c.E s.H u B E F G H ?_);exact uA c (t:=[]) (u:=l6 v) (Ma v) r s (λM N o p q O P Q=>Mb J L c.e Q P.H) t
theorem Ek{c:M r}{f:Wd->List ap->r->Prop}{l:r->M s}{v:Wd->ap->s->Prop}(d:uy b w)(g:((ak,x)::y).any (·.1)=ak)(h:kY b i k (di ((ak,x)::y)) c f e a m)(j:∀z A o p q,Gr (lB i) (li m.heap) e a m o p q->HS b o p q->f o z A->kY b i k (bI w (B++z)) (l A) v o p q):kY b i k (jg C w B ((ak,x)::y) []) (M.bind c l) v e a m:=λn=>by exact dL (by refine g.symm▸?_;rfl) d (dm (kY.cps (w:=λz=>bI w (B++z)) h j n))
theorem El{c:M r}{f:Wd->ap->r->Prop}(d:kY b i k l c f e a m):kY b i k (di [(ak,l)]) c (λe v w=>∃x,v=[x]/\f e x w) e a m:=λg=>by refine((by rfl:di [(ak,l)]=(l>>=λx=>(ba [x]>>=λh=>bF h (ba [])>>=λv=>ba (h++v)))))▸?_;refine af (d.go g (λx w p o q j n s t=>?_) λx q t=>t);exact af (au (af (aT (au (au ⟨w,p,o,j,n,s,x,rfl,t⟩)))))
theorem Mf(c:Cx b h j i k d g)(f:g.f l "isinstance"=I)(r:g.f v "int"=I)(s:lc w g x=Z y)(t:At b i g d n e a m):kY b i k (bu (.Call (.Name l z) [x,.Name v A] [] B) d) (l_ h (kX h j) n (.l6 .s [y])) VI e a m:=λu=>by
 refine mj (vQ f) λC E F=>?_;subst F;refine mj (vQ r) λG H F=>?_;subst F;refine af (uw (k:=.builtin "isinstance") c.C c.E t.H C E (by decide+kernel) (by decide+kernel) (by decide+kernel) (by decide+kernel) ?_);refine((by rw[rQ s];rfl:bS B (bh [x,.Name (bN "int") A] d)=(ak,bu x d)::[(ak,bu (.Name (bN "int") A) d)]))▸?_;have J:l_ h (kX h j) n (.l6 .s [y]) a=M.bind ((kX h j).ev n y) (λL=>l6 .s [L]) a:=by show M.bind (M.bind ((kX h j).ev n y) λN=>M.bind (M.pure []) λO=>M.pure (N::O)) _ a=_;rw[xl];rfl
 rw[J]at u⊢;refine Ek (B:=[]) (c:=(kX h j).ev n y) (f:=λe O L=>∃N,O=[N,.type "int"]/\VI e N L) (l:=λL=>l6 .s [L]) (uz _) rfl ?_ (λO L o p q P Q R=>?_) u;·intro S;refine((by rfl:di ((ak,bu x d)::[(ak,bu (.Name (bN "int") A) d)])=(bu x d>>=λN=>(ba [N]>>=λT=>bF T (di [(ak,bu (.Name (bN "int") A) d)])>>=λO=>ba (T++O)))))▸?_;refine af ((c.ev s t).go S (λN L p o q U V W R=>?_) λN q R=>R);refine af (au (af (aT ?_)));refine((by rfl:di [(ak,bu (.Name (bN "int") A) d)]=(bu (.Name (bN "int") A) d>>=λN=>(ba [N]>>=λT=>bF T (ba [])>>=λO=>ba (T++O)))))▸?_;refine af (uw (k:=.type "int") c.C c.E W G H (by decide+kernel) (by decide+kernel) (by decide+kernel) (by decide+kernel) ?_);exact af (au (af (aT (au (au (au ⟨L,p,o,U,V,W,N,rfl,R⟩))))))
 ·refine ll R λN F X=>?_;refine F▸?_;exact Kq X Q
theorem Em(c:Cx b h j i k d g)(f:g.f l "range"=I)(r:lL (lc v g) w=Z x)(s:At b i g d n e a m):kY b i k (bu (.Call (.Name l y) w [] z) d) (M.bind (mw (kX h j) n x) λA=>M.c (qr A)) RG e a m:=λt=>by refine mj (vQ f) λu B C=>?_;cases C;refine af (uw (k:=.type "range") c.C c.E s.H u B (by decide+kernel) (by decide+kernel) (by decide+kernel) (by decide+kernel) ?_);exact uA c (t:=[]) (u:=λA=>M.c (qr A)) (xp _) r s (λA E o p q F G H=>KO H G.H) t
theorem Mg(c:Cx b h j i k d g)(f:g.f l "list"=I)(r:g.f v "range"=I)(s:lL (lc w g) x=Z y)(t:At b i g d n e a m):kY b i k (bu (.Call (.Name l z) [.Call (.Name v A) x [] B] [] C) d) (l_ h (kX h j) n (.l6 .u y)) VI e a m:=λu=>by
 refine mj (vQ f) λE F G=>?_;subst G;refine af (uw (k:=.type "list") c.C c.E t.H E F (by decide+kernel) (by decide+kernel) (by decide+kernel) (by decide+kernel) ?_);have H:l_ h (kX h j) n (.l6 .u y) a=M.bind (M.bind (mw (kX h j) n y) λJ=>M.c (qr J)) (λL=>M.pure (.c L)) a:=by rw[xl];rfl
 rw[H]at u⊢;refine Ek (B:=[]) (l:=λL=>M.pure (V.c L)) (xp _) rfl (El (Em c r s t)) (λJ N o p q O P v=>?_) u;refine ll v λQ G R=>?_;refine G▸?_;exact KQ c.e R P
theorem Cx.l(c:Cx b h j i k d g)(f:lx e v w)(l:At b i g d n e a m):kY b i k (bI (.ref x) v) ((Mine.Internal.kX h j).l x w) VI e a m:=rP.l c.d f c.E.d c.E.g (by have:=c.hd;exact vg this) (by have:=c.c;exact s5 this) l.H l.K
theorem Aq(c:nh b g)(f:Ev i k d g)(h:HS b e a m)(j:g.i l=Z (.i v))(n:(l==("__debug__":aX))=ak)(o:Q (.ref v) m):az (aC b.a b.w) k (bu (.Name l w) d) Q x m:=by refine lA (CC.q j) λp j=>ll (c.e _ _ j) λq r s=>?_;obtain rfl:=(s e).q;exact c_ f.a (f.sc l p:d.kindOf l=Z .globalImplicit) (gi (by refine f.e.symm▸?_;exact b.hg.keeps h.v) r o) n
theorem Mh(c:Cx b h j i k d g)(f:g.i l=Z (.i v))(r:(l==("__debug__":aX))=ak)(s:g.g v=I)(t:lL (lc w g) x=Z y)(u:At b i g d n e a m):kY b i k (bu (.Call (.Name l z) x [] A) d) (l_ h (kX h j) n (.l v y)) VI e a m:=by intro B;refine af (Aq c.C c.E u.H f r ?_);exact uA c (t:=[]) (u:=λC=>(kX h j).l v C) (vO (c.C.g v s)) t u (λC E o p q F G H=>c.l H G) B
structure uB(b:Gd)(C f:Nat):Prop where
 makes:makesIn b.K C=I
 c:dH b.K (.ref C) "__init__"=Z (Z (.ref f))fn:typeIn b.K (.ref f)=Z (.type "function")
theorem Mi(c:Cx b h j i k d g)(f:uB b l v)(r:lx e w x)(s:At b i g d n e a m):kY b i k (bI (.ref l) w) (su (kX h j) l v x) VI e a m:=by
 intro t;obtain⟨u,y,z,A,B⟩:=m;have C:=s.H;have E:li u<=u.objs.size:=pW u;have F:∀G H,u.get? G=Z H->((u.push c8).push (dA l u.objs.size)).get? G=Z H:=λG H J=>av _ (av _ J);have a0:((u.push c8).push (dA l u.objs.size)).get? (u.objs.size+1)=Z (dA l u.objs.size):=by have:=aU (u.push c8) (o:=dA l u.objs.size) rfl;rwa[aV]at this
 have L:1<li u:=C.c;have a3:li u<=li ((u.push c8).push (dA l u.objs.size)):=by unfold li;rw[aV,aV];exact Y [] [u.objs.size] ⟨[],[],[],.L .a (.p (.p .a .u) .u)⟩
 have a4:HS b (e.p u.objs.size) ⟨a.σ++[.b []],a.mu⟩ ⟨(u.push c8).push (dA l u.objs.size),y,z,A,B⟩:=(C.h (tk:=A) F:HS b e a ⟨(u.push c8).push (dA l u.objs.size),y,z,A,B⟩).p ⟨[],0,(av _ (aU _ rfl):((u.push c8).push (dA l u.objs.size)).get? u.objs.size=Z c8),.c⟩ (C.r E) (C.i E) (aF L E);have a5:(e.p u.objs.size).as=e.as++[u.objs.size]:=rfl;have a6:u.objs.size+1∉(e.p u.objs.size).as:=λM=>by
  rw[a5,List.mem_append,bc]at M;refine aB M (λM=>?_) (λM=>?_);·exact C.r (bo E) M
  ·exact absurd M (iL _)
 have N:HS b ((e.p u.objs.size).p (u.objs.size+1)) ⟨(a.σ++[.b []])++[.a l a.σ.length],a.mu⟩ ⟨(u.push c8).push (dA l u.objs.size),y,z,A,B⟩:=by refine a4.p ⟨u.objs.size,?_,a0⟩ a6 (C.i (bo E)) (aF L (bo E));show(e.as++[u.objs.size]++[u.objs.size+1])[a.σ.length]?=Z u.objs.size;rw[bP,cO (by rw[C.b];exact al _),C.b,gn];rfl
 have O:(a.σ++[MO.b []])++[.a l a.σ.length]=a.σ++[.b [],.a l a.σ.length]:=by simp
 rw[O]at N;have P:Gr (lB i) (li u) e a ⟨u,y,z,A,B⟩ ((e.p u.objs.size).p (u.objs.size+1)) ⟨a.σ++[.b [],.a l a.σ.length],a.mu⟩ ⟨(u.push c8).push (dA l u.objs.size),y,z,A,B⟩:=by have Q:=((Gr.h (s:=⟨u,y,z,A,B⟩) (tk:=A) F a3:Gr (lB i) (li u) e a ⟨u,y,z,A,B⟩ e a ⟨(u.push c8).push (dA l u.objs.size),y,z,A,B⟩).j (Gr.p (mo:=.b []) (FA:=lB i) (W:=e) (S:=a) (s:=⟨(u.push c8).push (dA l u.objs.size),y,z,A,B⟩) E) (al _)).j (Gr.p (mo:=.a l a.σ.length) (FA:=lB i) (W:=e.p u.objs.size) (S:=⟨a.σ++[.b []],a.mu⟩) (s:=⟨(u.push c8).push (dA l u.objs.size),y,z,A,B⟩) (bo E)) (al _);rw[O]at Q;exact Q
 have R:At b i g d n ((e.p u.objs.size).p (u.objs.size+1)) ⟨a.σ++[.b [],.a l a.σ.length],a.mu⟩ ⟨(u.push c8).push (dA l u.objs.size),y,z,A,B⟩:=s.d P N;have S:VI ((e.p u.objs.size).p (u.objs.size+1)) (.ref (u.objs.size+1)) (.b (a.σ.length+1)):=by refine .b ?_;show(e.as++[u.objs.size]++[u.objs.size+1])[a.σ.length+1]?=Z (u.objs.size+1);rw[bP,cO (by rw[C.b];exact aL _),C.b,Nat.add_sub_cancel_left];rfl
 refine en (make_core (makes_of C.K f.makes) (g_ C.K f.c) (λa7=>bind_fn C.K a7 f.fn) (.inl rfl) ?_);have a8:rP b h j:=c.d;have a9:(k.under (.builtin "type.__call__" ⟨.ref l::w,[]⟩)).frames=Z i:=by refine c.E.g▸?_;rfl
 refine codeAny_mono (a8 (.b S (r.k P.le)) c.E.d a9 (by have:=c.hd;exact(Y [] [k.depth,j] ⟨[1],[],[.L (.p .a (.p .b .u)) (.k 990)],.L (.p (.p .a .u) .b) (.k 990)⟩) this) (by have:=c.c;exact(Y [] [k.units,j] ⟨[1],[],[.L (.p .a (.m 8 (.p .b .u))) (.k 9000)],.L (.p (.p .a .u) (.m 8 .b)) (.k 9000)⟩) this) R.H R.K (λb0=>t (congrArg (o0 (a.σ.length+1)) b0):(kX h j).l v (.b (a.σ.length+1)::x) ⟨a.σ++[.b [],.a l a.σ.length],a.mu⟩≠.b)) λT q U=>?_
 induction T with|error J=>
  exact(U.re λb1 p V=>congrArg (o0 (a.σ.length+1)) V).b P|ok b2=>
  induction b2 with
  |ret b3=>obtain⟨b4,p,o,V,W,b5,T⟩:=U;have X:=congrArg (o0 (a.σ.length+1)) V;cases b4 with|g=>exact⟨T.s,.b (a.σ.length+1),p,o,X,P.j W P.i,b5,S.k W.le⟩|_=>exact absurd X t
  |_=>exact U.elim
theorem Mj(c:∀f l,h.c f=Z l->uB b f l)(r:Cx b h j i k d g)(s:g.i l=Z (.i v))(t:(l==("__debug__":aX))=ak)(u:g.c v=I)(w:lL (lc x g) y=Z z)(A:At b i g d n e a m):kY b i k (bu (.Call (.Name l B) y [] C) d) (l_ h (kX h j) n (.r v z)) VI e a m:=by intro E;refine af (Aq r.C r.E A.H s t ?_);exact uA r (t:=[]) (u:=λF=>M.lG (h.c v) λl=>su (kX h j) v l F) (vO (r.C.c v u)) w A (λF G o p q H J L=>kY.n λl N=>Mi r (c v l N) L J) E
theorem Mk:∀{c:List aj}{f:List ls},lL (lc l g) c=Z f->(bS v (bh c d)).all (λw=>!w.1)=I:=by intro a;induction a with|nil=>intro _ _;exact rfl|cons b c e=>intro _ h;refine lP (nB h) λi j k m n=>?_;cases n;rw[rQ k];refine(e m).symm▸?_;rfl
theorem Ml(a:(c.endLine==f.line)=I):methodCallPos I l d c f=ba f:=if_pos (congrArg (λb=>!I||b) a)
theorem En(a:rN c=I)(b:(f.endLine==l.line)=I)(e:(bS l (bh v d)).all (λw=>!w.1)=I)(g:v.length<30):bu (.Call (.Attribute c x f) v [] l) d=(bu c d>>=λy=>eE f.atName>>=λ_=>bF [y] (ju y x (do return(←importBound c d).getD I))>>=λz=>jg l z.1 z.2 (bS l (bh v d)) []):=by
 have h:methodCallForm (v.length+([]:List Keyword).length) (bS l (bh v d)) (backToKw l (keywordEach [] d))=I:=by show((bS l (bh v d)).all (λw=>!w.1)&&I&&aE (v.length<30))=I;refine e.symm▸?_;refine ah (decide_eq_true g) ?_;rfl
 rw[arm_eval_Call,D_ a];refine congrArg (Bind.bind (bu c d)) (funext λy=>congrArg (Bind.bind (eE f.atName)) (funext λ_=>?_));unfold methodCall;refine h.symm▸?_;refine(Ml b)▸?_;rfl
theorem Eo(a:rN c=I)(b:(f.endLine==l.line)=I)(e:v.length<30)(h:lL (lc w g) v=Z x):bu (.Call (.Attribute c y f) v [] l) d=(bu c d>>=λz=>eE f.atName>>=λ_=>bF [z] (ju z y (do return(←importBound c d).getD I))>>=λA=>jg l A.1 A.2 (bS l (bh v d)) []):=En a b (Mk h) e
theorem Mm(c:TF b h)(f:Cx b h j i k d g)(l:VI e v w)(r:∀x,w=.b x->a.σ[x]?=Z y)(s:rE h z w y=I)(t:lL (lc A g) B=Z C)(u:At b i g d n e a m):kY b i k (bF [v] (ju v (b.nm z) E)>>=λF=>jg G F.1 F.2 (bS G (bh B d)) []) (M.bind (mw (kX h j) n C) λH=>rG h z w y H) VI e a m:=λJ=>by refine af (aT (KS c.b l u.H r s ?_));refine uA f (t:=[v]) (u:=λH=>rG h z w y H) (uz _) t u (λH L o p q N O P=>?_) J;exact K7 O.e s (l.k N.le) P O.H
theorem Mn(c:TF b h)(f:Cx b h j i k d g)(l:rN v=I)(r:(w.endLine==x.line)=I)(s:y.length<30)(t:lc z g v=Z A)(u:g.id B=Z C)(E:lL (lc z g) y=Z F)(G:At b i g d n e a m):kY b i k (bu (.Call (.Attribute v B w) y [] x) d) (l_ h (kX h j) n (.p A C F)) VI e a m:=by rw[Eo l r s E,←f.C.d _ _ u];refine kY.bind (f.ev t G) λa0 H a3 a4 a5 J L M=>kY.d (kY.ti λN O=>?_);have P:=G.d J L;induction N with|a Q a6=>refine kY.mR λa7 R=>kY.aM λS a8=>kY.vw λa9=>kY.n λT b0=>λb1=>?_;refine gz λb2 b3=>?_;refine lP (O.a M) λb4 b5 b6 c1 c2=>?_;subst b6;refine nZ (P.H.a c1 (a8▸R) c2) λc3 c4 U c5 c6 V=>?_;refine lA (c.c Q C T b0) λd0 d1=>?_;obtain⟨W,d2,d3⟩:=d0;refine b3 ?_;refine af (aT (method_fn P.H.K c6 (plainGet_of W).1 (plainGet_of W).2 d2 (beq_iff_eq.mp d3) (by show(lookIn (b.nm C) (dG c4 U)).map _=_;rw[lookIn_dict,((V.kZ b.inj).2 a9)];rfl) ?_));exact uA f (t:=[.ref b4]) (u:=λX=>(kX h j).l T (H::X)) (vO d1) E P (λX S o p q d4 d5 V=>f.l (.b (M.k d4.le) V) d5) b1|_=>exact kY.f λd6=>Mm c f M O.b d6 E P
end
end
section
noncomputable def Ar(a:bL)(b:aX):Prop:=a.kindOf b=Z .local\/a.kindOf b=Z .cell
noncomputable def m6(a:bL)(b:aX):aS:=if a.kindOf b=Z .local then a.locals else(a.cells.lookup b).getD 0
structure pA(W:Wd)(env:bL)(s:am):Prop where
 ns:∃m,s.heap.Ns env.locals m
 g:env.locals∉W.as
 e:W.φ env.locals=D
 cl:Cl W env s
section
variable{q:Gd}{r:List bL}{s:aN}{k n:Wd}{S S':MS}{l o:am}{t:PT}{p:Nat}{w:CC}{j:bL}{z:Ro}{FA:List aS}
theorem Gr.e(a:Gr FA p k S l n S' o)(b:k.φ d=D)(c:d<p):n.φ d=D:=by
 cases e:n.φ d with|none=>rfl|some f=>
  refine aB (a.u d f e) (λg=>?_) (λg=>?_);·exact nn (b.symm.trans g)
  ·exact absurd c (Nat.not_lt.mpr g)
theorem pA.d(a:pA k j l)(b:Gr FA (li l.heap) k S l n S' o):pA n j o:=by obtain⟨⟨c,d⟩,e,f,g⟩:=a;exact⟨⟨c,b.ns e (rO d) d⟩,b.B e (rO d),b.e f (rO d),g.d b⟩
structure qF(k:Wd)(j:bL)(x:aX)(v:ap)(h h':dk):Prop where
 a:bA (m6 j x) h h'
 f:n_ k j h' x v
 i:∀y u,y≠x->n_ k j h y u->n_ k j h' y u
 b:∀l:am,l.heap=h->pA k j l->∀tk,pA k j {l with heap:=h',toks:=tk}live:∃o',h'.get? (m6 j x)=Z o'
 c:(∃m m',h.Ns (m6 j x) m/\h'.Ns (m6 j x) m')\/(∃v,h.IsCell (m6 j x) v)g:m6 j x∉k.as
 e:k.φ (m6 j x)=D
theorem qF.kZ(a:qF k j m u v x):∃y,v.get? (m6 j m)=Z y/\((∃A B,y.data=.dict A B)\/∃C,y.data=.cell C):=by
 rcases a.c with⟨b,_,⟨y,A,B,c,d,_⟩,_⟩|⟨C,y,c,d⟩;·exact lQ y c (.inl ⟨A,B,d⟩)
 ·exact lQ y c (.inr ⟨C,d⟩)
theorem qF.d(a:qF k j m u v x):∃y,v.get? (m6 j m)=Z y/\∀A,y.data≠.fields A:=by refine ll a.kZ λy b v=>?_;refine lQ y b (λA c=>?_);rw[c]at v;rcases v with⟨_,_,v⟩|⟨_,v⟩<;>exact nomatch v
theorem rS{a:dk}(b:a.Ns c d)(e:a.IsCell c f):False:=by obtain⟨g,h,i,j,k,_⟩:=b;obtain⟨l,m,n⟩:=e;rw[j]at m;obtain rfl:=aa m;rw[k]at n;contradiction
theorem vR(a:j.scope.kind=.function)(a0:Ar j b)(a3:∀b c d,j.cells.lookup b=Z d->j.cells.lookup c=Z d->b=c)(a4:j.kindOf b=Z .cell->∃d,j.cells.lookup b=Z d)(e:pA k j l)(f:∀g h,qF k j b i l.heap g->Q () {l with heap:=g,toks:=h}):az (aC a5 a6) s (storeName j b i) Q a7 l:=by
 obtain⟨⟨a8,m⟩,a9,b0,b1⟩:=e;by_cases n:j.kindOf b=Z .local
 ·have p:m6 j b=j.locals:=if_pos n;refine wpAny_storeName_local n m (λg q r=>f g _ ?_) (by refine a▸?_;rfl);refine⟨p▸r,.inl ⟨n,a9,_,q,if_pos rfl⟩,λc t u v=>?_,λo w e h=>?_,?_,.inl ⟨a8,_,p▸m,p▸q⟩,p▸a9,p▸b0⟩
  ·rcases v with⟨x,y,z,A,B⟩|⟨x,d,y,C,E⟩;·refine .inl ⟨x,y,_,q,?_⟩;show(if c=b then Z i else a8 c)=Z t;refine ah (if_neg u) ?_;refine gz λb2 F=>?_;obtain⟨b3,b4,b5,b6,c1,c2,c3⟩:=m;obtain⟨c4,c5,c6,d0,G,d1,d2⟩:=A;refine F ?_;rw[b6]at d0;obtain rfl:=aa d0;replace G:=c1▸G;cases G;rw[←c3,d2];exact B
   ·refine .inr ⟨x,d,y,C,E.sameBut r λw=>?_⟩;subst w;exact rS m E
  ·obtain⟨_,y,C,E⟩:=e;refine⟨⟨_,q⟩,y,C,λc d H=>?_⟩;refine mj (E c d H) λJ L M=>lp M λt N=>?_;replace N:=w▸N;refine⟨J,L,t,N.sameBut r λw=>?_⟩;subst w;exact rS m N
  ·refine p▸?_;refine gz λb2 F=>?_;obtain⟨O,d3,d4,P,d5,_⟩:=q;refine F ?_;exact⟨O,P⟩
 ·have H:j.kindOf b=Z .cell:=a0.resolve_left n;refine lp (a4 H) λd R=>?_;have p:m6 j b=d:=by refine ah (if_neg n) ?_;refine R▸?_;rfl
  refine mj (b1 b d R) λy C M=>lp M λd6 E=>?_;refine wpAny_storeName_cell a H R E λg S r=>f g l.toks ?_;refine⟨p▸r,.inr ⟨.inl H,d,y,R,S⟩,λc t u v=>?_,λo w e h=>?_,?_,.inr ⟨_,p▸E⟩,p▸y,p▸C⟩
  ·rcases v with⟨x,T,z,A,B⟩|⟨x,U,T,V,W⟩;·refine .inl ⟨x,T,z,A.sameBut r λw=>?_,B⟩;rw[w]at A;exact rS A E
   ·refine .inr ⟨x,U,T,V,W.sameBut r λw=>?_⟩;induction w;exact u (a3 _ _ _ V R)
  ·obtain⟨⟨z,X⟩,T,V,W⟩:=e;replace X:=w▸X;refine⟨⟨z,X.sameBut r λw=>?_⟩,T,V,λc U d7=>?_⟩;·rw[w]at X;exact rS X E
   ·refine gz λb2 F=>?_;obtain⟨J,L,t,N⟩:=W c U d7;refine F ?_;rw[w]at N;by_cases w:U=d;·induction w;exact⟨J,L,_,S⟩
    ·exact⟨J,L,t,N.sameBut r w⟩
  ·refine p.symm▸?_;obtain⟨O,P,d5⟩:=S;exact⟨O,P⟩
theorem HS.f(a:HS q k S l)(b:bA d l.heap C)(c:d∉k.as)(e:k.φ d=D):HS q k S {l with heap:=C,toks:=tk}where l:=a.l;j:=λf g h=>(b.2 f λi=>by exact nn (e▸i▸h)).trans (a.j f g h);b:=a.b;u:=a.u;e:=a.e;q:=a.q;k:=λj m f n o=>(a.k j m f n o).k (k.a) λg i=>(b.2 f λp=>c (p▸aH o)).trans i
theorem Gr.f(a:bA d l.heap F)(b:p<=d)(c:d∉FA):Gr FA p k S l k S {l with heap:=F,toks:=tk}:=⟨λ_ _ e=>e,λ_ _ e=>.inl e,bD _,λ_ f=>.inl f,λg h _ _ i e=>(a.2 g λj=>aZ _ (aF (j▸i) b)).trans e,λg m h e=>⟨h.slots,(a.2 g λj=>c (j▸m)).trans e⟩,λ_ g h i e=>(a.2 g λj=>aZ _ (aF (j▸i) b)).trans e,al _,(by unfold li;refine a.1▸?_;exact al _),⟨F,tk,rfl⟩⟩
theorem mU.f(a:mU r k l)(b:bA c l.heap e)(d:(∃g h,l.heap.Ns c g/\e.Ns c h)\/(∃i,l.heap.IsCell c i)):mU r k {l with heap:=e,toks:=tk}:=λf j=>by
 refine gz λm n=>?_;refine lA (a f j) λo p=>wz p λq s t u v w x=>?_;refine n ?_;by_cases y:q=c
 ·induction y;rcases d with⟨g,h,z,A,B,C,E,F,_⟩|⟨i,A,z,E⟩;·exact⟨o,q,A,t,E,⟨B,C,F⟩,w,x⟩
  ·obtain⟨B,C,G⟩:=v;rw[u]at z;obtain rfl:=aa z;replace E:=G▸E;contradiction
 ·exact⟨o,q,s,t,(b.2 q y).trans u,v,w,x⟩
end
end
section
noncomputable def xu(a:Nat->Prop)(b:Nat->aS)(c:Nat)(d:Wd)(e:CC)(f:bL)(g:Ro)(h:am):Prop:=(∀i j,a i->kZ i g=Z (.b j)->(∀k,e.b k=Z i->n_ d f h.heap k (.ref (b i)))/\(∃l:List ap,h.heap.PlainList (b i) l.toArray/\lx d l j)/\b i∉d.as/\d.φ (b i)=D/\c<=b i)/\(∀i m j n,a i->a m->kZ i g=Z (.b j)->kZ m g=Z (.b n)->b i=b m->i=m)
structure Fs(G:Gd)(l:List bL)(cc:CC)(env:bL)(P:Nat->Prop)(oa:Nat->aS)(n₀:Nat)(ρ:Ro)(W:Wd)(S:MS)(s:am):Prop where
 t:At G l cc env ρ W S s
 b:pA W env s
 a:xu P oa n₀ W cc env ρ s
structure Fv(G:Gd)(cc:CC)(env:bL)(N:aX->Prop)(n₀:Nat)(FA:List aS):Prop where
 a:env.scope.kind=.function
 d:∀x i,cc.id x=Z i->G.nm i=x
 g:∀x,N x->Ar env x
 cx:∀x,env.kindOf x=Z .cell->∃c,env.cells.lookup x=Z c
 b:∀x y c,env.cells.lookup x=Z c->env.cells.lookup y=Z c->x=y
 lo:∀x,N x->n₀<=m6 env x
 e:∀x,N x->m6 env x∉FA
section
variable{s:Gd}{y:List bL}{E:aN}{l u:Wd}{S S':MS}{j q:am}{F:PT}{B t:Nat}{r:CC}{n:bL}{p C:Ro}{FA:List aS}{z:Nat->Prop}{w:Nat->aS}{A:aX->Prop}
theorem CC.k(a:r.b o=Z v):r.id o=Z v:=by exact(CC.l a).2
theorem As(a:mJ (.inr b) c p=Z C):∃d,c=.e d/\b.length=d.length/\(b.zip d).foldl (λp e=>k9 e.1 (.a e.2) p) p=C:=by
 cases c with
 |e d=>have a:(bif b.length==d.length then Z ((b.zip d).foldl (λp e=>k9 e.1 (.a e.2) p) p)else D)=Z C:=a;cases f:b.length==d.length with|false=>replace a:=f▸a;cases a|true=>rw[f]at a;exact pQ d rfl (aG f) (aa a)
 |_=>exact nn a
theorem oi{a:Type}(b)(c:a):∀(p:List (Nat×a))(d:Nat),kZ d (k9 b c p)=if d=b then Z c else kZ d p:=by
 intro e;induction e with|nil=>
  intro d;show(bif b==d then Z c else D)=_;by_cases f:b=d;·cases f;simp
  ·have:(b==d)=ak:=by simpa using f
   refine this▸?_;refine ah ?_ (if_neg (dT f)).symm;rfl|cons g h i=>
  intro d;show kZ d (bif g.1==b then(b,c)::h else g::k9 b c h)=if d=b then Z c else bif g.1==d then Z g.2 else kZ d h
  cases f:g.1==b with|true=>
   show(bif b==d then Z c else kZ d h)=_;refine((by simpa using f:g.1=b)).symm▸?_;by_cases j:b=d;·subst j;simp
   ·have:(b==d)=ak:=by simpa using j
    refine this▸?_;refine ah ?_ (if_neg (dT j)).symm;rfl|false=>
   show(bif g.1==d then Z g.2 else kZ d (k9 b c h))=_;refine((i d))▸?_;by_cases j:d=b;·induction j;refine f▸?_;rfl
   ·refine ah (congrArg _ (if_neg j)) ?_;exact((if_neg j)).symm
theorem q_{a:Type}{b c:a}{p}{d:Prop}(e:kZ f (k9 g b p)=Z c)(h:f=g->b=c->d)(i:f≠g->kZ f p=Z c->d):d:=by
 by_cases j:f=g;·exact h j (aa ((if_pos j).symm.trans ((oi g b p f).symm.trans e)))
 ·exact i j ((if_neg j).symm.trans ((oi g b p f).symm.trans e))
theorem LV.c(a:LV.a e=LV.a f):e=f:=LV.noConfusion a λb=>b
theorem LV.d(a:LV.b e=LV.b f):e=f:=LV.noConfusion a λb=>b
theorem uC{a}{b:Prop}(c:kZ d (k9 e (.a a) p)=Z (.b f))(g:d≠e->kZ d p=Z (.b f)->b):b:=q_ c (λ_ h=>LV.noConfusion h) g
theorem Ep{a}{b:Prop}(c:kZ d (k9 e (.b f) p)=Z (.a a))(g:d≠e->kZ d p=Z (.a a)->b):b:=q_ c (λ_ h=>LV.noConfusion h) g
theorem qF.h(a:qF l n k m o v)(b:o.PlainList x G):v.PlainList x G:=b.imp λc d=>(a.a.2 _ λe=>by subst e;refine ll a.kZ λf g h=>?_;exact h.elim (λh=>mY h λ_ _ h=>tm g h d rfl) λh=>lp h λ_ h=>w0 g h d rfl).trans d
theorem Fv.c(a:Fv s r n A t FA)(b:A f):n.kindOf f≠Z .free:=λc=>(a.g f b).elim (λd=>absurd (d.symm.trans c) (by decide)) λd=>absurd (d.symm.trans c) (by decide)
theorem Fv.nm(a:Fv s r n A t FA)(b:r.b f=Z h)(c:r.b i=Z k)(d:k=h):i=f:=(a.d i k (CC.k c)).symm.trans (d▸a.d f h (CC.k b))
theorem xv(a:r.b b=Z c)(d:r.b e=Z f)(B:f≠c):e≠b:=λg=>B (aa (d.symm.trans (g▸a)))
structure xw(n:bL)(l:Wd)(h:dk)(u:Wd)(h':dk):Prop where
 ns:∀m,h.Ns n.locals m->h'.Ns n.locals m
 g:n.locals∉l.as->n.locals∉u.as
 e:l.φ n.locals=D->u.φ n.locals=D
 a:∀c v,h.IsCell c v->h'.IsCell c v
 b:∀c v,h.IsCell c v->c∉l.as->c∉u.as
 cf:∀c v,h.IsCell c v->l.φ c=D->u.φ c=D
theorem n_.a(a:n_ l n b c e)(d:xw n l b u f):n_ u n f c e:=by
 refine aB a (λg=>mj g λh i g=>ll g λj k m=>?_) (λg=>lA g λh g=>mQ g λo i k m=>?_);·exact .inl ⟨h,d.g i,j,d.ns _ k,m⟩
 ·exact .inr ⟨h,o,d.b _ _ m i,k,d.a _ _ m⟩
theorem Cl.a(a:Cl l n j)(b:xw n l j.heap u q.heap):Cl u n q:=λc d e=>by refine mj (a c d e) λf g h=>lp h λi k=>?_;exact oz (b.b _ _ k f) (b.cf _ _ k g) ⟨i,b.a _ _ k⟩
theorem Fs.to(a:Fs s y r n z w t p l S j)(b:xw n l j.heap u q.heap)(c:l.le u)(d:HS s u S' q)(e:mU y u q)(f:∀m o v,z m->kZ m p=Z (.b o)->j.heap.PlainList (w m) v->w m∉l.as->l.φ (w m)=D->q.heap.PlainList (w m) v/\w m∉u.as/\u.φ (w m)=D):Fs s y r n z w t p u S' q:=by
 have g:=a.t.L.a b;refine⟨⟨d,e,λh m i k x=>?_,g⟩,⟨a.b.ns.imp λA=>b.ns A,b.g a.b.g,b.e a.b.e,g⟩,λm o B C=>?_,a.a.2⟩;·exact ll (a.t.R h m i k x) λE F G=>lQ E (F.k c) (G.a b)
 ·refine nc (a.a.1 m o B C) λH J L M N=>ll J λv O P=>?_;exact mj (f m o _ B C O L M) λQ R T=>qp (λh U=>(H h U).a b) ⟨v,Q,P.k c⟩ R T N
theorem xx{a:dk}(b:a.PlainList c d)(e:∃f,a.get? g=Z f/\∃h i,f.data=.dict h i):g≠c:=λj=>lp b λ_ b=>ll e λ_ k l=>mY l λ_ _ l=>tm (j▸k) l b rfl
theorem xy{a:dk}(B:a.Ns b c):∃d,a.get? b=Z d/\∃e f,d.data=.dict e f:=nZ B λd e f g h _=>lQ d g ⟨e,f,h⟩
theorem Mo{a:dk}(b:a.PlainList c d)(e:a.IsCell f g):f≠c:=λh=>lp b λ_ b=>ll e λ_ i j=>w0 (h▸i) j b rfl
theorem mU.to(a:mU y l j)(b:∀c e g h,c∈lB y->j.heap.get? c=Z e->e.data=.dict g h->∃i,q.heap.get? c=Z i/\i.data=e.data)(B:∀c e g h,j.heap.get? c=Z e->e.data=.dict g h->l.φ c=D->u.φ c=D)(d:∀c e g h,j.heap.get? c=Z e->e.data=.dict g h->c∉l.as->c∉u.as):mU y u q:=λf k=>by refine lA (a f k) λm n=>wz n λc e o p r s t=>mY r λg h v=>?_;exact ll (b c e g h (List.mem_filterMap.mpr ⟨f,k,o⟩) p v) λi w x=>n0 m ⟨c,i,o,w,⟨g,h,x.trans v⟩,B c e g h p v s,d c e g h p v t⟩
theorem Mp(a:Gr FA B l S j u S' q)(b:j.heap.PlainList c d)(e:c∉l.as)(f:c<B)(g:c∉FA):q.heap.PlainList c d:=by obtain⟨h,b⟩:=b;exact mf h (a.l c _ e g f b)
theorem xu.d(a:xu z w t l r n p j)(b:Gr FA (li j.heap) l S j u S' q)(c:∀e∈FA,∃a,j.heap.get? e=Z a/\∃f g,a.data=.dict f g):xu z w t u r n p q:=by
 refine⟨λd h i k=>?_,a.2⟩;refine nc (a.1 d h i k) λm o s v x=>ll o λy A B=>?_;have C:w d<li j.heap:=by obtain⟨E,F⟩:=A;exact nJ F
 refine qp (λG H=>(m G H).d b) ⟨y,Mp b A s C λF=>?_,B.k b.le⟩ (b.B s C) (b.e v C) x;refine ll (c _ F) λJ L o=>mY o λf g M=>?_;obtain⟨E,N⟩:=A;rw[N]at L;obtain rfl:=aa L;contradiction
theorem mU.k(a:mU y l j):∀c∈lB y,∃e,j.heap.get? c=Z e/\(∃g h,e.data=.dict g h):=λc b=>by refine mQ (a.at b) λe d f _=>?_;exact lQ e d f
theorem Fs.d(a:Fs s y r n z w t p l S j)(b:Gr (lB y) (li j.heap) l S j u S' q)(c:HS s u S' q):Fs s y r n z w t p u S' q:=⟨a.t.d b c,a.b.d b,a.a.d b a.t.K.k⟩
theorem Fs.f(a:Fv s r n A t FA){m}{o}(b:Fs s y r n z w t p l S j)(c:r.b v=Z m)(d:VI l o x)(e:qF l n v o j.heap G):Fs s y r n z w t (k9 m (.a x) p) l S {j with heap:=G,toks:=tk}:=by
 have f:=e.b j rfl b.b tk;refine⟨⟨b.t.H.f e.a e.g e.e,b.t.K.f e.a e.c,λg h i k q=>?_,f.cl⟩,f,λh u B q=>?_,λh C u E F H J L=>?_⟩;·refine q_ q (λF J=>lQ o (LV.c J▸d) ((a.nm c k F).symm▸e.f)) λF q=>?_;refine ll (b.t.R g h i k q) λM N O=>?_;exact lQ M N (e.i g M (xv c k F) O)
 ·refine uC q λF q=>?_;refine nc (b.a.1 h u B q) λP Q R T U=>ll Q λV W X=>?_;exact qp (λg k=>e.i g _ (xv c k F) (P g k)) ⟨V,e.h W,X⟩ R T U
 ·exact uC J λ_ J=>uC L λ_ L=>b.a.2 h C u E F H J L
structure o_(l:Wd)(n:bL)(A:aX->Prop)(i:am->Prop):Prop where grow:∀(j:am)h' tk,i j->(∀a o,j.heap.get? a=Z o->h'.get? a=Z o)->li j.heap<=li h'->i {j with heap:=h',toks:=tk}f:∀(j:am)x v h' tk,i j->A x->qF l n x v j.heap h'->i {j with heap:=h',toks:=tk}
theorem xz(a:o_ l n A b)(c:b j)(d:Fv s r n A t FA)(e:Fs s y r n z w t p l S j)(f:r.b g=Z h)(i:A g)(k:VI l m o)(u:∀q,b q->Gr FA t l S j l S q->Fs s y r n z w t (k9 h (.a o) p) l S q->Q () q):az (aC s.a s.w) E (iw (.Name g v) n m) Q x j:=wpAny_assign_Name (vR d.a (d.g g i) d.b (d.cx g) e.b λB C F=>u _ (a.f j g m B C c i F) (Gr.f F.a (d.lo g i) (d.e g i)) (e.f d f k F))
theorem Gr.a(a:Gr FA t d o G H J L)(b:Gr FA t H J L N O P):Gr FA t d o G N O P:=a.j b (al _)
theorem Mq(a:o_ l n A b)(c:Fv s r n A t FA):∀{d:List aj}{e:List Nat}{f:List ap}{g:List V}{p:Ro}{j:am}{h:Unit->am->Prop},lL (sy r) d=Z e->(∀i k,.Name i k∈d->A i)->lx l f g->e.length=g.length->b j->Fs s y r n z w t p l S j->(∀q,b q->Gr FA t l S j l S q->Fs s y r n z w t ((e.zip g).foldl (λp k=>k9 k.1 (.a k.2) p) p) l S q->h () q)->az (aC s.a s.w) E (assignInOrder ((iR d n).map (·.2)) f) h m j:=by
 intro o;induction o with
 |nil=>intro e f g p j h u v x B C F G;have:=oh u;subst this;cases x with|c=>exact kH (G j C (Gr.c _ _ _) F)|b _ _=>simp at B
 |cons a0 d H=>intro e f g p j h u v x B C F G;refine lP (nB u) λa3 a4 J L M=>?_;subst M;cases x with|c=>simp at B|@b a5 a6 f g x N=>refine mB (xd J) λi k M J=>?_;subst M;refine kI (xz a C c F J (v i k (aw ..)) x λq O P Q=>?_);exact H L (λi k R=>v i k (aq _ R)) N (by simpa using B) O Q λT U W X=>G T U (P.a W) X
theorem Ms:∀{a:List aj}{b:List Nat},lL (sy r) a=Z b->(iR a n).findIdx? (·.1)=D/\(iR a n).length=a.length:=by
 intro c;induction c with|nil=>
  intro _ _;exact⟨rfl,rfl⟩|cons d a e=>
  intro b f;refine lP (nB f) λg h i j k=>?_;subst k;refine lA (e j) λl m=>?_;refine mB (xd i) λo p k _=>?_;refine k▸?_;refine⟨?_,?_⟩;·refine(kS).symm▸?_;simp[l]
  ·refine bE▸?_;refine ah ?_ List.length_cons.symm;exact congrArg _ m
theorem Au(a:o_ l n A b)(c:b j)(d:E.handled=D)(e:Fv s r n A t FA)(f:Fs s y r n z w t p l S j)(g:o8 r h=Z i)(k:∀m∈oB h,A m)(o:VI l v x)(u:mJ i x p=Z C)(F:∀q,b q->Gr FA t l S j l S q->Fs s y r n z w t C l S q->Q () q):az (aC s.a s.w) E (iw h n v) Q a0 j:=by
 refine aB (C6 g) (λG=>nZ G λm a3 a4 H J a5=>?_) (λa6=>yR a6 λL a7 a3 a8 a9 J b0=>?_);·subst H;subst a5;cases u;exact xz a c e f J (k m (List.mem_singleton.mpr rfl)) o F
 ·subst a9;subst b0;refine mQ (As u) λb1 b2 M H=>?_;subst b2;subst H;obtain⟨N,O,P,b3,rfl,b4,b5,b6,R⟩:=o.o;refine lA (Ms (n:=n) J) λc1 c2=>?_;refine af (bC ?_);unfold unpack;refine((by refine c2▸?_;refine((xm J:L.length=a8.length))▸?_;refine M▸?_;refine ah ?_ List.size_toArray.symm;exact R.a▸rfl:(iR L n).length=P.toArray.size))▸?_;refine c1▸?_;refine af (aT (rI (unpackItems_tuple (items:=P.toArray) d ⟨O,f.t.H.j _ _ b4,b5,b3,b6⟩ λT c3 U=>?_)));have V:∀N O,j.heap.get? N=Z O->T.get? N=Z O:=λN O W=>c3 N O (cY (bK W)) W;have X:∀{FA B},Gr FA B l S j l S {j with heap:=T}:=λ{FA B}=>Gr.h (FA:=FA) (n:=B) (tk:=j.toks) V U;have c4:Fs s y r n z w t p l S {j with heap:=T}:=f.d X (f.t.H.h (tk:=j.toks) V);refine Mq a e J (λm c5 c6=>k m ?_) R M (a.grow j T j.toks c V U) c4 λq d0 d1 d2=>F q d0 ((X).a d1) d2;exact List.mem_flatMap.mpr ⟨_,c6,List.mem_singleton.mpr rfl⟩
end
end
section
set_option backward.match.sparseCases true
noncomputable abbrev xA:List String:=["enumerate","zip","dict_itemiterator","dict_reverseitemiterator","odict_iterator","itertools.zip_longest","itertools.pairwise"]
structure Kp(W:Wd)(s:am)(W':Wd)(s':am):Prop where
 c:∀b o,s.heap.get? b=Z o->(∀vs,o.data≠.fields vs)->s'.heap.get? b=Z o
 e:∀b o,s.heap.get? b=Z o->W.φ b=D->W'.φ b=D
 g:∀b o,s.heap.get? b=Z o->b∉W.as->b∉W'.as
structure Er(G:Gd)(mt:Bool)(j:Nat->Wd->am->Prop):Prop where
 l:∀i W S s W' S' s' FA' n,j i W s->HS G W S s->Gr FA' n W S s W' S' s'->HS G W' S' s'->li s.heap<=n->(∀a∈FA',∃o,s.heap.get? a=Z o/\∃es ep,o.data=.dict es ep)->(S'.mu=S.mu\/mt=ak)->j i W' s'
 f:∀i W S s a h' tk,j i W s->HS G W S s->bA a s.heap h'->a∉W.as->W.φ a=D->(∃o,s.heap.get? a=Z o/\∀vs,o.data≠.fields vs)->j i W {s with heap:=h',toks:=tk}c:mt=ak->∃dom:List aS,(∀i W s,j i W s->∀b∈dom,b<li s.heap)/\∀i W S s W' S' s' FA' n,j i W s->HS G W S s->Gr FA' n W S s W' S' s'->HS G W' S' s'->(∀b∈dom,b<n)->(∀a∈FA',∃o,s.heap.get? a=Z o/\∃es ep,o.data=.dict es ep)->j i W' s'
 h:∀i W s a o,j i W s->s.heap.get? a=Z o->(∀vs,o.data≠.fields vs)->W.φ a=D->j i (W.b a o) s
structure p6(G:Gd)(A:aN)(FA:List aS)(n₀:Nat)(mt:Bool)(qR:aj)(j:aS)(ds:List V)(y:Nat->Wd->am->Prop):Prop extends Er G mt y where
 item:∀i W S s d(Q:ap->am->Prop)(E:ap->am->Prop),y i W s->HS G W S s->ds[i]?=Z d->(∀v W' s',Gr FA n₀ W S s W' S s'->HS G W' S s'->VI W' v d->y (i+1) W' s'->Kp W s W' s'->Q v s')->az (aC G.a G.w) A (pyNext (.ref j)) (λr s₁=>∃v,r=Z v/\az (aC G.a G.w) A (h_ qR (.ref j) v) (λ_ s₂=>Q v s₂) E s₁) E s
 done:∀i W S s(Q:am->Prop)(E:ap->am->Prop),y i W s->HS G W S s->i=ds.length->(∀s',Gr FA n₀ W S s W S s'->HS G W S s'->Kp W s W s'->Q s')->az (aC G.a G.w) A (pyNext (.ref j)) (λr s₁=>r=D/\Q s₁) E s
 self:∀i W s(Q:ap->am->Prop)(E:ap->am->Prop),y i W s->Q (.ref j) s->az (aC G.a G.w) A (hH (.ref j)) Q E s
section
variable{m:Gd}{t:List bL}{r:aN}{W k:Wd}{S S':MS}{f q:am}{u:PT}{n s:Nat}{v:CC}{w:bL}{x y:Ro}{FA:List aS}
theorem Mt(a:f.heap.get? b=Z c)(d:c.cls=.type e)(g:c.data=.fields h)(i:xA.contains e=ak)(j:Q () f):az (aC m.a m.w) r (h_ l (.ref b) o) Q p f:=by
 have k:∀q:aS,az (aC m.a m.w) r (do let c←load b match c.cls,c.data with|.type n,.fields h=>if xA.contains n&&h[0]?==Z (fX q)then rule "for.unpacks-the-owned-tuple"updateField b 0 .none|_,_=>ba ()) Q p f:=λq=>by refine af (wpAny_load a ?_);refine d▸?_;refine g▸?_;dsimp only;refine i▸?_;rw[Bool.false_and];exact au j
 have s:az (aC m.a m.w) r (ba ()) Q p f:=au j;cases l with
 |Tuple|List=>induction o<;>first|exact s|exact k _
 |_=>exact s
theorem sD(a:b≠c):(W.b c d).φ b=W.φ b:=if_neg a
structure Rc(W:Wd)(h:dk)(b:aS):Prop where
 g:b∉W.as
 e:W.φ b=D
 c:∃o vs,h.get? b=Z o/\o.data=.fields vs
section
variable{c g:dk}{a b:aS}{p:jb}{i:Nat}{j:List aS}
theorem Rc.lt(a:Rc W c b):b<li c:=by refine mB a.c λd e f _=>?_;exact nJ f
theorem Rc.to(d:Rc W c b)(e:b∉k.as)(f:k.φ b=D)(h:∀o,c.get? b=Z o->g.get? b=Z o):Rc k g b:=⟨e,f,by refine mB d.c λo i a j=>?_;exact⟨o,i,h _ a,j⟩⟩
theorem Rc.ne(d:Rc W c b)(e:c.get? a=Z p)(f:∀o,p.data≠.fields o):b≠a:=λg=>by refine mB d.c λh o i j=>?_;rw[g,e]at i;exact f o (aa i▸j)
theorem Rc.l(c:Rc W f.heap b)(d:Gr j i W S f k S' q)(e:b<i)(g:∀a∈j,∃o,f.heap.get? a=Z o/\∃z A,o.data=.dict z A):∀o,f.heap.get? b=Z o->q.heap.get? b=Z o:=λo=>d.l b o c.g (λh=>by refine ll (g b h) λl m n=>mY n λz A p=>?_;exact c.ne m (λ_=>uo p) rfl) e
theorem Rc.d(c:Rc W f.heap b)(d:Gr j i W S f k S' q)(e:b<i)(g:∀a∈j,∃o,f.heap.get? a=Z o/\∃z A,o.data=.dict z A):Rc k q.heap b:=c.to (d.B c.g e) (d.e c.e e) (c.l d e g)
theorem Rc.h(d:Rc W c b)(e:b≠a):Rc (W.b a p) c b:=d.to d.g ((sD e).trans d.e) λ_ f=>f
theorem HS.A(a:HS m W S f){d:List aS}(c:∀b∈d,Rc W f.heap b)(e:∀b o,b∉d->f.heap.get? b=Z o->g.get? b=Z o):HS m W S {f with heap:=g,toks:=tk}where l:=a.l;j:=λb o h=>e b o (λi=>by have:=(c b i).e;rw[h]at this;exact nn this.symm) (a.j b o h);b:=a.b;u:=a.u;e:=a.e;q:=a.q;k:=λj k b l n=>(a.k j k b l n).k (W.a) λo i=>e b o (λp=>(c b p).g (aH n)) i
theorem Gr.A{d:List aS}(a:∀b∈d,n<=b/\b∉FA)(e:li f.heap<=li g)(h:∀b o,b∉d->f.heap.get? b=Z o->g.get? b=Z o):Gr FA n W S f W S {f with heap:=g,toks:=tk}:=⟨λ_ _ i=>i,λ_ _ i=>.inl i,bD _,λ_ c=>.inl c,λb o _ _ j i=>h b o (λk=>aZ _ (aF j (a b k).1)) i,λb l o i=>⟨o.slots,h b o (λk=>(a b k).2 l) i⟩,λ_ b o j i=>h b o (λk=>aZ _ (aF j (a b k).1)) i,al _,e,⟨g,tk,rfl⟩⟩
theorem xB{d:List aS}(a:∀b∈d,Rc W c b)(e:c.get? b=Z h)(f:∀l,h.data≠.fields l):b∉d:=λg=>(a b g).ne e f rfl
noncomputable def sE(e:Bool)(W:Wd)(a:aS):Prop:=if e then a∈W.as else∃b,W.φ a=Z b
variable{e:Bool}
theorem sE.le(b:W.le k)(d:sE e W a):sE e k a:=by induction e with|true=>exact b.2.subset d|false=>exact d.imp λf c=>b.1 _ _ c
theorem sE.ne(d:sE e W b)(f:a∉W.as)(g:W.φ a=D):b≠a:=λh=>by induction h;induction e with|true=>exact f d|false=>refine lp d λi c=>?_;exact nn (g.symm.trans c)
theorem sE.l(a:sE e W b)(c:HS m W S f)(d:Gr j i W S f k S' q)(g:HS m k S' q)(h:(S'.mu=S.mu/\li f.heap<=i)\/e=ak)(l:f.heap.get? b=Z o):q.heap.get? b=Z o:=by
 induction e with|false=>
  refine lp a λp n=>?_;rw[c.j _ _ n]at l;exact l▸g.j _ _ (d.b _ _ n)|true=>
  refine aB h (λh=>?_) (λh=>?_);·exact d.z h.1 b o (aF (nJ l) h.2) l
  ·contradiction
end
structure YD(j:List aS)(ax:Option aS)(mt:Bool)(n:Nat)(St:Nat->dk->Prop)(Re:Wd->Prop)(i:Nat)(W:Wd)(f:am):Prop where
 st:St i f.heap
 le:i<=n
 c:∀b∈j,Rc W f.heap b
 e:∀a,ax=Z a->sE mt W a
 re:Re W
section
variable{b:List aS}{c:Option aS}{h:Bool}{e:Nat->dk->Prop}{g:Wd->Prop}{a i:Nat}{j:List aS}
theorem YD.d(d:∀a l o,e a l->(∀p,(p∈b\/c=Z p)->∀z,l.get? p=Z z->o.get? p=Z z)->e a o)(r:∀W k,W.le k->g W->g k)(s:YD b c h n e g a W f)(t:HS m W S f)(u:Gr j i W S f k S' q)(v:HS m k S' q)(w:∀p∈b,p<i)(x:∀A∈j,∃z,f.heap.get? A=Z z/\∃B C,z.data=.dict B C)(y:(S'.mu=S.mu/\li f.heap<=i)\/h=ak):YD b c h n e g a k q:=⟨d a _ _ s.st λp E z F=>E.elim (λl=>(s.c p l).l u (w p l) x z F) λl=>(s.e p l).l t u v y F,s.le,λp l=>(s.c p l).d u (w p l) x,λA l=>(s.e A l).le u.le,r _ _ u.le s.re⟩
theorem Es(d:∀a l o,e a l->(∀p,(p∈b\/c=Z p)->∀z,l.get? p=Z z->o.get? p=Z z)->e a o)(r:∀W k,W.le k->g W->g k):Er m h (YD b c h n e g)where
 c:=λs=>⟨b,λa W f t p u=>(t.c p u).lt,λa W S f k S' q j i t v w x y A=>t.d d r v w x y A (.inr s)⟩;h:=λa W f B C t E F y=>by have G:W.le (W.b B C):=(Gr.m (FA:=[]) (n:=0) (S:=⟨[],0⟩) (s:=f) (o:=C) y (bv _)).le;exact⟨t.st,t.le,λp u=>(t.c p u).h ((t.c p u).ne E F),λp u=>(t.e p u).le G,r _ _ G t.re⟩
 l:=λa W S f k S' q j i t v w x y A H=>t.d d r v w x (λp u=>aF (t.c p u).lt y) A (H.imp (λl=>⟨l,y⟩) id);f:=λa W S f B o J t v L M N O=>by refine ll O λC F P=>?_;exact⟨d a _ _ t.st λp u z Q=>(L.2 p (u.elim (λl=>(t.c p l).ne F P) λl=>(t.e p l).ne M N)).trans Q,t.le,λp u=>(t.c p u).to (t.c p u).g (t.c p u).e λz Q=>(L.2 p ((t.c p u).ne F P)).trans Q,t.e,t.re⟩
theorem Mu(a:d∈l::c.toList):d∈[l]\/c=Z d:=by
 refine aB (List.mem_cons.mp a) (λb=>?_) (λa=>?_);·induction b;exact .inl (List.mem_singleton.mpr rfl)
 ·exact .inr (Option.mem_toList.mp a)
end
noncomputable def Mv(a:List V)(b:Nat->ap->Prop)(W:Wd):Prop:=∀c d,b c d->∀e,a[c]?=Z e->VI W d e
theorem Mw{a:Bool}{b:Nat->ap->Prop}{c:Nat->dk->Prop}{d}(e:Walks m.a m.w r g (g::h.toList) [g] n b c)(i:xA.contains d=ak)(j:∀l o,c l o->∃p z,o.get? g=Z p/\p.cls=.type d/\p.data=.fields z)(q:s<=g)(t:g∉FA)(u:n=A.length):p6 m r FA s a a0 g A (YD [g] h a n c (Mv A b))where
 toEr:=Es (λl o v w x=>e.frame l o v w λy B=>x y (Mu B)) λW k C E a3 a4 F G H=>(E a3 a4 F G H).k C;item:=λl W S f G J L M N H O=>by refine rI (e.item l f _ _ (u▸(List.getElem?_eq_some_iff.mp H).1) M.st λP v a5 F Q R T=>?_);refine lP (j _ _ Q) λa6 a7 U a8 V=>?_;refine lQ P rfl (Mt U a8 V i ?_);have E:Rc W f.heap g:=M.c g (List.mem_singleton.mpr rfl);exact O P W _ (Gr.A (λy B=>List.mem_singleton.mp B▸⟨q,t⟩) T R) (N.A M.c R) (M.re l P F G H) ⟨Q,u▸(List.getElem?_eq_some_iff.mp H).1,λy B=>List.mem_singleton.mp B▸⟨E.g,E.e,a6,a7,U,V⟩,M.e,M.re⟩ ⟨λy p X H=>R y p (xB M.c X H) X,λ_ _ _ X=>X,λ_ _ _ X=>X⟩
 done:=λl W S f J L M N a9 O=>by obtain rfl:l=n:=a9.trans u.symm;exact rI (e.done f _ _ M.st λv a5 R T=>⟨rfl,O _ (Gr.A (λy B=>List.mem_singleton.mp B▸⟨q,t⟩) T R) (N.A M.c R) ⟨λy p X H=>R y p (xB M.c X H) X,λ_ _ _ X=>X,λ_ _ _ X=>X⟩⟩)
 self:=λl W f J L M O=>e.self l f J L M.st O
end
end
section
section
variable{b:Gd}{m:List bL}{e:aN}{d n:Wd}{g o:MS}{a p:am}{l:PT}{k h:Nat}{q:CC}{r:bL}{s t:Ro}{f:List aS}
inductive qG(b:Gd)(e:aN)(f:List aS)(h:Nat)(mt:Bool)(qR:aj)(ds:List V)(d:Wd)(g:MS)(a:am)(it:ap)(s₁:am):Prop|mk(i:aS)(j:Nat->Wd->am->Prop)(h1:it=.ref i)(h2:∀f k,Gr f k d g a d g s₁)(h3:HS b d g s₁)(h4:p6 b e f h mt qR i ds j)(h5:j 0 d s₁)
theorem uD{c}{i:Nat->dk->Prop}{j}{u}{v}(l:HS b d g a)(m:u.cls=.type j)(n:u.data=.fields v)(o:xA.contains j=ak)(p:u.isFreed=ak)(q:Walks b.a b.w e a.heap.objs.size (a.heap.objs.size::w.toList) [a.heap.objs.size] k x i)(r:∀y z,i y z->∃u v,z.get? a.heap.objs.size=Z u/\u.cls=.type j/\u.data=.fields v)(s:h<=li a.heap)(t:a.heap.objs.size∉f)(A:i 0 (a.heap.push u))(B:k=C.length)(E:∀F,w=Z F->(if c then F∈d.as else∃u,d.φ F=Z u))(G:∀H J,x H J->∀L,C[H]?=Z L->VI d J L):qG b e f h c N C d g a (.ref a.heap.objs.size) {a with heap:=a.heap.push u}:=by have M:∀F O,a.heap.get? F=Z O->(a.heap.push u).get? F=Z O:=λF O P=>av _ P;exact⟨_,_,rfl,λf k=>Gr.h (tk:=a.toks) M (by unfold li;rw[aV];exact aL _:li a.heap<=li (a.heap.push u)),l.h (tk:=a.toks) M,Mw q o r s t B,A,bv _,λQ R=>List.mem_singleton.mp R▸⟨l.r (pW _),l.i (pW _),u,v,aU _ p,n⟩,E,G⟩
theorem Mx{c:ap->am->Prop}(i:e.handled=D)(j:HS b d g a)(l:VI d u (.c v))(m:h<=li a.heap)(n:a.heap.objs.size∉f):az (aC b.a b.w) e (hH u) (qG b e f h ak w v d g a) c a:=by
 obtain⟨o,p,q,k,rfl,r,s,t,x⟩:=l.l;have y:=VI.t j r s t;refine wpAny_pyIter_list y ?_;refine uD (w:=Z o) (k:=q.toArray.size) (i:=λz A=>A.IsListIter a.heap.objs.size o z/\A.IsList o q.toArray) j rfl rfl (by decide) rfl (Walks.list i a.heap.objs.size o (cY (bK (j.j _ _ r))) q.toArray) ?_ m n ?_ (by simp[x.a]) ?_ ?_;·rintro z A⟨⟨p,B,C,E⟩,_⟩;exact mh p _ B C E
 ·exact⟨⟨_,aU _ rfl,rfl,rfl⟩,y.at λp F=>av _ F⟩
 ·intro G H;obtain rfl:=aa H;exact mf p r
 ·intro J L M N O;refine ll (x.d O) λP Q R=>?_;simp at M;rw[Q]at M;obtain rfl:=aa M;exact R
theorem My{c:ap->am->Prop}(i:e.handled=D)(j:HS b d g a)(l:VI d u (.e v))(m:h<=li a.heap)(n:a.heap.objs.size∉f):az (aC b.a b.w) e (hH u) (qG b e f h ak w v d g a) c a:=by
 obtain⟨o,p,q,k,rfl,r,s,t,x⟩:=l.o;have y:a.heap.IsTuple o q.toArray:=⟨p,j.j _ _ r,s,k,t⟩;refine wpAny_pyIter_tuple y ?_;refine uD (w:=Z o) (k:=q.toArray.size) (i:=λz A=>A.IsTupleIter a.heap.objs.size o z/\A.IsTuple o q.toArray) j rfl rfl (by decide) rfl (Walks.tuple i a.heap.objs.size o (cY (bK (j.j _ _ r))) q.toArray) ?_ m n ?_ (by simp[x.a]) ?_ ?_;·rintro z A⟨⟨p,B,C,E⟩,_⟩;exact mh p _ B C E
 ·exact⟨⟨_,aU _ rfl,rfl,rfl⟩,y.at λp F=>av _ F⟩
 ·intro G H;obtain rfl:=aa H;exact mf p r
 ·intro J L M N O;refine ll (x.d O) λP Q R=>?_;simp at M;rw[Q]at M;obtain rfl:=aa M;exact R
theorem Mz{c:ap->am->Prop}(i:e.handled=D)(j:HS b d g a)(l:RG d u v)(m:h<=li a.heap)(n:a.heap.objs.size∉f):az (aC b.a b.w) e (hH u) (qG b e f h ak w v d g a) c a:=by
 obtain⟨o,p,q,r,s,u,t,k,rfl,x,y,z,A,rfl⟩:=l;refine wpAny_pyIter_range (j.j _ _ x) y ?_;refine uD (w:=D) (k:=k) (j:="range_iterator") (i:=λB C=>IsRangeIter C a.heap.objs.size (p+(B:Nat)*r) ((k:Int)-(B:Nat)) r) j rfl rfl (by decide) rfl (Walks.range i a.heap.objs.size p r k) ?_ m n ?_ (xj r k p).symm ?_ ?_;·intro B C E;exact mh _ _ E rfl rfl
 ·have:=aU a.heap (o:={cls:=.type "range_iterator",data:=.fields #[fX p,fX (k:Int),fX r]}) rfl;refine z.symm▸?_;simpa[IsRangeIter]using this
 ·intro F G;exact nn G
 ·intro H J L M N;refine lp L λO P=>?_;refine P▸?_;have Q:H<k:=by have:=(List.getElem?_eq_some_iff.mp N).1;rw[xj]at this;exact this
  rw[DV r k p H Q]at N;refine(aa N)▸?_;exact .a _ _
theorem MA(c:e.handled=D)(i)(j)(u):Walks b.a b.w e i [i] [i] j.size (λv w=>∃x y,j[v]?=Z x/\w=.int (x.toNat:Int) y) (λv z=>KBw.IsBytesIter z i j u v)where
 sub:=λ_ d=>d;frame:=λ_ _ _ f g=>let⟨h,k,l⟩:=f;⟨h,g i (by simp) h k,l⟩;item:=λv a m n o f p=>by refine KBw.next_item f (c:=j[v]) (by simp[o]) λq r s=>?_;exact p _ q (a.toks+1) ⟨_,_,by simp[o],rfl⟩ r λj h d t=>s.extBut j h (λz=>d (by simp[z])) t
 done:=λa m n f p=>KBw.next_end c f (by simp) λq A=>p q a.toks λj h d t=>A j h (λz=>d (by simp[z])) t;self:=λ_ _ _ _ f p=>KBw.pyIter_self f p
theorem MB{c:ap->am->Prop}(i:e.handled=D)(j:HS b d g a)(l:VI d u (.f v))(m:h<=li a.heap)(n:a.heap.objs.size∉f):az (aC b.a b.w) e (hH u) (qG b e f h ak w (v.map λx=>V.a (x:Nat)) d g a) c a:=by
 refine mB l.u λx o p q=>?_;refine p▸?_;refine q▸?_;refine KBw.pyIter_bytes ?_;refine uD (w:=D) (k:=x.size) (j:="bytes_iterator") (i:=λr s=>KBw.IsBytesIter s a.heap.objs.size x o r) j rfl rfl (by decide) rfl (MA i a.heap.objs.size x o) ?_ m n ?_ (by simp) ?_ ?_;·rintro r s⟨t,y,z,A⟩;exact mh t _ y z A
 ·exact pQ _ (aU _ rfl) rfl rfl
 ·intro B C;exact nn C
 ·intro E F G H J;refine mB G λB u L p=>?_;refine p▸?_;simp at J;obtain⟨M,N,rfl⟩:=J;rw[L]at N;refine(aa N)▸?_;exact .a _ _
theorem MC{c:ap->am->Prop}(i:e.handled=D)(j:HS b d g a)(l:VI d u (.b v))(m:g.σ[v]?=Z (.c w))(n:h<=li a.heap)(o:a.heap.objs.size∉f):az (aC b.a b.w) e (hH u) (qG b e f h I x w d g a) c a:=by
 refine ll l.n λp q r=>?_;subst q;obtain⟨s,t,y⟩:=(j.k v _ p m r).p;have z:p<a.heap.objs.size:=by obtain⟨A,B,_⟩:=t;exact bK B
 refine wpAny_pyIter_list t ?_;refine uD (w:=Z p) (k:=s.toArray.size) (i:=λv C=>C.IsListIter a.heap.objs.size p v/\C.IsList p s.toArray) j rfl rfl (by decide) rfl (Walks.list i a.heap.objs.size p (cY z) s.toArray) ?_ n o ?_ (by simp[y.a]) ?_ ?_;·rintro v C⟨⟨A,E,F,G⟩,_⟩;exact mh A _ E F G
 ·exact n0 ⟨_,aU _ rfl,rfl,rfl⟩ (t.at λA H=>av _ H)
 ·intro J L;refine(aa L)▸?_;exact aH r
 ·intro M N O P Q;refine ll (y.d Q) λR S T=>?_;simp at O;rw[S]at O;obtain rfl:=aa O;exact T
theorem ME{c:ap->am->Prop}(i:e.handled=D)(j:HS b d g a)(l:VI d u (.b v))(m:g.σ[v]?=Z (.m w))(n:h<=li a.heap)(o:a.heap.objs.size∉f):az (aC b.a b.w) e (hH u) (qG b e f h I a0 (w.map λx=>V.a x.1) d g a) c a:=by
 refine ll l.n λp q r=>?_;refine q▸?_;refine gz λa3 s=>?_;obtain⟨t,⟨y,z,A,B,C,E,F,G,H⟩,J⟩:=j.k v _ p m r;refine s ?_;have L:a.heap.DictAt (eU b.a b.w) p t A:=⟨y,z,B,C,E,F,G,H⟩;refine wpAny_pyIter_dict (j.x (aH r)) L ?_;refine uD (w:=Z p) (k:=t.length) (j:="dict_keyiterator") (i:=λv M=>M.IsKeyIter a.heap.objs.size p v t.length A/\M.DictAt (eU b.a b.w) p t A) j rfl rfl (by decide) rfl (Walks.dictKeys i a.heap.objs.size p (cY (bK B)) t A) ?_ n o ?_ (by simp[J.a]) ?_ ?_;·rintro v M⟨⟨y,B,C,E⟩,_⟩;exact mh y _ B C E
 ·exact⟨⟨_,aU _ rfl,rfl,rfl⟩,L.at' λy x=>av _ x⟩
 ·intro a4 N;refine(aa N)▸?_;exact aH r
 ·intro O P Q a5 L;obtain⟨R,S,T,U⟩:=Q;have W:∀{t:List (Int×ap)}{w:List (Int×V)},mA d t w->∀(O:Nat)(R:Int)(S:ap),t[O]?=Z (R,S)->(w.map λx=>V.a x.1)[O]?=Z (V.a R):=by intro t w J;induction J with|c=>intro O R S M;simp at M|b p J a6=>intro O R S M;induction O with|zero=>simp at M;simp[M.1]|succ O=>simpa using a6 O R S (by simpa using M)
  rw[(W J O R S T)]at L;obtain rfl:=aa L;obtain⟨X,rfl⟩:∃X,P=.int R X:=by induction P<;>simp[eU,Value.isInt]at U;induction U;exact mf _ rfl
  exact .a _ _
noncomputable def vS(a b:aS)(c:aX)(d:Tok)(e:Nat)(f:dk):Prop:=(∃g,IsEnum f a b e g)/\f.IsStrIter b "str_ascii_iterator" c d e
noncomputable def YE(a b:aS)(c:aX)(d:Tok):Nat->Wd->am->Prop:=YD [a,b] D ak c.cps.size (vS a b c d) (λ_=>True)
theorem Av{c:aS->Prop}(a:i∈[j,u])(b:c j)(d:c u):c i:=by
 refine aB (List.mem_cons.mp a) (λe=>?_) (λa=>?_);·refine e▸?_;exact b
 ·exact List.mem_singleton.mp a▸d
theorem vS.c(a:vS i j u v w x)(b:y∈[i,j]):∃z A,x.get? y=Z z/\z.data=.fields A:=by refine gz λc d=>?_;obtain⟨⟨e,f⟩,z,g,_,h⟩:=a;refine d ?_;exact Av (c:=λy=>∃z A,x.get? y=Z z/\z.data=.fields A) b ⟨_,_,f,rfl⟩ ⟨z,_,g,h⟩
theorem MF:∀(c:List V)(i:Int)(j:Nat)(u:V),(rC i c)[j]?=Z u->∃v,c[j]?=Z v/\u=.e [.a (i+j),v]:=by intro a;induction a with|nil=>intro _ _ _ b;exact nn b|cons v c d=>intro i e;induction e with|zero=>intro u b;exact lQ v rfl (aa b▸congrArg (λf=>V.e [.a f,v]) (cz i).symm)|succ j=>intro u b;refine ll (d (i+1) j u b) λg h k=>?_;refine lQ g (h) ?_;refine k▸?_;rw[Int.natCast_succ];congr 3;exact Y [i] [j] ⟨[],[],[],.e (.p (.p .a .u) (.n .a)) (.p .a (.p (.n .a) .u))⟩
theorem MG:∀(c:List V)(i:Int),(rC i c).length=c.length:=by intro c;induction c with|nil=>exactλ_=>rfl|cons a c b=>exactλi=>congrArg (·+1) (b _)
theorem MH{c:aX}{i:Nat}(a:(rC 0 (c.cps.toList.map λj=>.d [j]))[i]?=Z u):∃j,c.cps[i]?=Z j/\u=.e [.a i,.d [j]]:=by refine ll (MF _ _ _ _ a) λb d e=>?_;refine e▸?_;rw[dt,jF]at d;obtain⟨j,f,rfl⟩:=d;exact lQ j (by refine ah (Array.getElem?_toList).symm ?_;exact f) (by rw[ef])
theorem MI(a0:e.handled=D){a3:List aj}{c:Nat}(i:j≠u)(k:h<=j)(a4:h<=u)(a5:j∉f)(a6:u∉f):p6 b e f h ak (.Tuple a3 c a7) j (rC 0 (v.cps.toList.map λw=>.d [w])) (YE j u v a8):=by
 have m:=WalksT.enumerateD (Draws.strAscii (prog:=b.a) (w:=b.w) (A:=e.in1) a0 u v a8) j i (by simpa using i) (by simp);have n:(rC 0 (v.cps.toList.map λw=>V.d [w])).length=v.cps.size:=by rw[MG,ay];exact cF
 have o:∀p∈[j,u],h<=p/\p∉f:=λp q=>Av (c:=λp=>h<=p/\p∉f) q ⟨k,a5⟩ ⟨a4,a6⟩;refine{toEr:=Es (λr a9 s b0 c=>m.frame r a9 s b0 λp q=>c p (.inl q)) λ_ _ _ t=>t,item:=λr d g a b1 x y z A B C=>?_,done:=λr d g a x y z A b2 C=>?_,self:=λr d a x y z C=>?_}
 ·have E:r<v.cps.size:=n▸(List.getElem?_eq_some_iff.mp B).1;refine rI (m.item r a _ _ E z.st λl b3 s F b4 G b5 H J L=>?_);refine lQ (.ref l) rfl (rI (m.go _ _ _ r l _ _ _ H λM N O b6=>?_));refine gz λc1 c2=>?_;refine mB b4 λc3 c4 c5 c6=>mB c5 λw P d0 d1=>?_;subst d1;subst c6;obtain⟨Q,d2,d3,d4,d5⟩:=b5;refine c2 ?_;have R:l∉[j,u]:=m.apart r l _ H;have S:∀p T,p∉[j,u]->a.heap.get? p=Z T->M.get? p=Z T:=λp T q U=>O p T q (J p T q U);refine C _ (d.b l Q) _ ((Gr.A (W:=d) (S:=g) (FA:=f) (tk:=F) o (ao L b6:li a.heap<=li M) S).j (Gr.m (o:=Q) (A.i G) (ao k (ao (bB (z.c j (aw ..)).lt) G):h<=l)) (al _)) ((A.A (tk:=F) z.c S).m (s:={a with heap:=M,toks:=F}) (O l Q R d2:M.get? l=Z Q) (A.r G) (A.i G)) ?_ ⟨N,E,λp q=>?_,λ_ W=>nn W,trivial⟩ ⟨λp T U B=>S p T (xB z.c U B) U,λp T U d6=>?_,λ_ _ _ U=>U⟩;·refine ll (MH B) λd7 X d8=>?_;refine d8▸?_;rw[show v.cps[r]?=Z w from d0]at X;refine(aa X)▸?_;exact .e (Wd.c _ _ _) d3 (vs:=[.int r c3,.str ⟨#[w]⟩ P]) d5 (.b (.a _ _) (.b (.d [w] P) .c))
  ·have t:=(z.c p q).h (a:=l) (p:=Q) (λW=>R (W▸q));exact⟨t.g,t.e,vS.c N q⟩
  ·exact(sD λW=>by replace U:=W▸U;exact absurd (bK U) (Nat.not_lt.mpr G)).trans d6
 ·obtain rfl:r=v.cps.size:=b2.trans n;exact rI (m.done a _ _ z.st λs F J L=>⟨rfl,C _ (Gr.A o L J) (A.A z.c J) ⟨λp T U B=>J p T (xB z.c U B) U,λ_ _ _ U=>U,λ_ _ _ U=>U⟩⟩)
 ·obtain⟨⟨e0,e1⟩,_⟩:=z.st;exact wpAny_pyIter_enum e1 C
end
end
section
section
variable{c:Gd}{k:List bL}{f:aN}{d t:Wd}{a i:MS}{b s:am}{n:PT}{m l:Nat}{p:CC}{q:bL}{o u:Ro}{j:List aS}
theorem Et(a:∀e∈j,e<li b.heap)(c:li b.heap<=li s.heap):s.heap.objs.size∉j:=λd=>aZ _ (aF (a _ d) c)
theorem MJ(b:sq e a=.ok g i):i=a/\(e=.c g\/e=.e g\/∃h,e=.f h/\(h.map λr=>V.a (r:Nat))=g):=by cases e with|c c=>cases b;exact⟨rfl,.inl rfl⟩|e c=>cases b;exact⟨rfl,.inr (.inl rfl)⟩|f h=>cases b;exact⟨rfl,.inr (.inr ⟨h,rfl,rfl⟩)⟩|_=>exact nomatch b
theorem MK(e:rH g a=.ok h i):sq g a=.ok h i\/i=a/\∃r,g=.b r/\(a.σ[r]?=Z (.c h)\/∃v,a.σ[r]?=Z (.m v)/\(v.map λe=>V.a e.1)=h):=by
 cases g with
 |b r=>unfold rH at e;dsimp only at e;cases b:a.σ[r]? with|none=>rw[b]at e;exact nomatch e|some c=>rw[b]at e;induction c with|c d=>refine lA (vy e) λf j=>?_;subst f;subst j;exact .inr ⟨rfl,r,rfl,.inl b⟩|m v=>refine lA (vy e) λf j=>?_;subst f;subst j;exact .inr ⟨rfl,r,rfl,.inr ⟨v,b,rfl⟩⟩|_=>exact nomatch e
 |_=>exact .inl e
theorem ML(b:th e g a≠.b):∃h i,th e g a=.ok h i:=by
 have c:sq g a≠.b->∃h i,sq g a=.ok h i:=λb=>by cases g<;>first|exact tZ _ _ rfl|exact absurd rfl b
 induction e with|false=>exact c b|true=>
  cases g with
  |b d=>have f:th I (.b d) a=rH (.b d) a:=rfl;rw[f]at b⊢;unfold rH at b⊢;dsimp only at b⊢;cases j:a.σ[d]? with|none=>replace b:=j▸b;exact absurd rfl b|some k=>rw[j]at b;induction k<;>first|exact tZ _ _ rfl|exact absurd rfl b
  |_=>exact c b
theorem Eu(e:f.handled=D)(g:HS c d a b)(h:VI d r v)(k:l<=li b.heap)(m:b.heap.objs.size∉j)(n:sq v a=.ok w i):i=a/\az (aC c.a c.w) f (hH r) (qG c f j l ak x w d a b) y b:=by
 refine lA (MJ n) λn o=>?_;refine⟨n,?_⟩;rcases o with rfl|rfl|⟨p,rfl,rfl⟩;·exact Mx e g h k m
 ·exact My e g h k m
 ·exact MB e g h k m
theorem MM(e:f.handled=D)(g:HS c d a b)(h:VI d r v)(k:l<=li b.heap)(m:b.heap.objs.size∉j)(n:th w v a=.ok x i):i=a/\∃o,(o=I->w=I)/\az (aC c.a c.w) f (hH r) (qG c f j l o y x d a b) z b:=by
 induction w with|false=>exact(Eu e g h k m n).imp_right λp=>⟨ak,nofun,p⟩|true=>
  rcases MK n with q|⟨q,s,rfl,p⟩;·exact(Eu e g h k m q).imp_right λp=>⟨ak,nofun,p⟩
  ·refine⟨q,I,λ_=>rfl,?_⟩;rcases p with t|⟨u,t,rfl⟩;·exact MC e g h t k m
   ·exact ME e g h t k m
inductive MN(c:Gd)(k:List bL)(f:aN)(j:List aS)(l:Nat)(qR:aj)(inC:Bool)(d:Wd)(a:MS)(b:am)(r:R (List V))(itv:ap)(s₁:am):Prop|mk(ds:List V)(i:MS)(t:Wd)(s:am)(mt:Bool)(e:r=.ok ds i)(h:mt=I->inC=I)(g:Gr (lB k) (li b.heap) d a b t i s)(H:HS c t i s)(it:qG c f j l mt qR ds t i s itv s₁)
noncomputable def xC(c:Gd)(k:List bL)(f:aN)(j:List aS)(l:Nat)(e:aj)(g:Bool)(d:Wd)(a:MS)(b:am)(h:R (List V))(i:ap)(m:am):Prop:=az (aC c.a c.w) f (hH i) (MN c k f j l e g d a b h) (PE c k d a b h) m
section
variable{g:aj}{e:Bool}{r:Nat}{h:ls}
theorem MP(u:Cx c n m k f q p)(v:lc r p w=Z h)(x:At c k p q o d a b)(y:l<=li b.heap)(z:∀A∈j,A<li b.heap)(B:lS (kX n m) o e 0 [h] a≠.b):az (aC c.a c.w) f (bu w q) (xC c k f j l g e d a b (lS (kX n m) o e 0 [h] a)) (PE c k d a b (lS (kX n m) o e 0 [h] a)) b:=by refine(u.ev v x).h (g:=th e) B (λC E i t s F G H J L=>?_) λ_ _ M=>M;refine mY (ML G) λN O P=>?_;refine lA (MM (l:=l) (j:=j) (y:=g) (z:=λ_ _=>False) u.E.d J L (ao y H.i) (Et z H.i) P) λQ R=>ll R λS T U=>?_;cases Q;exact aK U (λV W X=>⟨N,_,t,s,S,F.trans P,T,H,J,X⟩) λ_ _ M=>M.elim
theorem MQ(h:Cx c n m k f q p)(u:p.f v "range"=I)(w:lL (lc r p) x=Z y)(z:At c k p q o d a b)(A:l<=li b.heap)(B:∀C∈j,C<li b.heap)(E:lS (kX n m) o e 1 y a≠.b):az (aC c.a c.w) f (bu (.Call (.Name v F) x [] G) q) (xC c k f j l g e d a b (lS (kX n m) o e 1 y a)) (PE c k d a b (lS (kX n m) o e 1 y a)) b:=(Em h u w z (y:=F) (z:=G)).go E (λH J i t s L M N O=>aK (Mz (h:=l) (f:=j) (w:=g) (c:=λ_ _=>False) h.E.d N O (ao A M.i) (Et B M.i)) (λP Q R=>⟨J,i,t,s,ak,L,nofun,M,N,R⟩) λ_ _ S=>S.elim) λ_ _ S=>S
theorem MT{v}(b:ul v a≠.b):∃w,v=.d w/\w.all (·<128)=I/\ul v a=.ok (rC 0 (w.map λx=>.d [x])) a:=by
 cases v with
 |d w=>cases c:w.all (·<128)with|true=>exact pQ w rfl c (by unfold ul;dsimp only;refine c▸?_;rfl)|false=>exact absurd (by unfold ul;dsimp only;refine c▸?_;rfl) b
 |_=>exact absurd rfl b
theorem MU(e:f.handled=D){v:List Nat}{w}{h:List V}(i:v.all (·<128)=I)(k:pv g=I)(n:HS c d a b)(o:l<=li b.heap)(p:∀x∈j,x<li b.heap):az (aC c.a c.w) f (bI (.type "enumerate") [.str ⟨v.toArray⟩ w]) (λy z=>az (aC c.a c.w) f (hH y) (qG c f j l ak g (rC 0 (v.map λA=>.d [A])) d a b) B z) B b:=by
 refine rI (call_enumerate_str λq r s t u C=>?_);have E:strIterType (⟨v.toArray⟩:aX)="str_ascii_iterator":=by
  unfold strIterType;have:(⟨v.toArray⟩:aX).cps.all (λA=>aE (A<128))=I:=by simpa using i
  refine this.symm▸?_;rfl
 rw[E]at s;refine wpAny_pyIter_enum r ?_;have F:vS (b.heap.objs.size+1) b.heap.objs.size ⟨v.toArray⟩ w 0 q:=⟨⟨.none,r⟩,s⟩;have G:∀H∈[b.heap.objs.size+1,b.heap.objs.size],H∉d.as/\d.φ H=D:=λH J=>Av (c:=λH=>H∉d.as/\d.φ H=D) J ⟨n.r (aL _),n.i (aL _)⟩ ⟨n.r (al _),n.i (al _)⟩;refine⟨_,YE (b.heap.objs.size+1) b.heap.objs.size ⟨v.toArray⟩ w,rfl,λj m=>Gr.h (tk:=b.toks) u C,n.h (tk:=b.toks) u,?_,F,bv _,λH J=>⟨(G H J).1,(G H J).2,F.c J⟩,λ_ L=>nn L,trivial⟩;cases g with|Tuple M N O=>exact MI (v:=⟨v.toArray⟩) (a8:=w) (j:=b.heap.objs.size+1) e (iL _) (bo o) o (λP=>absurd (p _ P) (Nat.not_lt.mpr (aL _))) λP=>absurd (p _ P) (Nat.not_lt.mpr (al _))|_=>exact ft k
theorem MV(u:Cx c n m k f q p){v:aX}{w x}{y:aj}(z:p.f v "enumerate"=I)(A:pv g=I)(B:lc r p y=Z h)(C:At c k p q o d a b)(E:l<=li b.heap)(F:∀y∈j,y<li b.heap)(G:lS (kX n m) o e 2 [h] a≠.b):az (aC c.a c.w) f (bu (.Call (.Name v w) [y] [] x) q) (xC c k f j l g e d a b (lS (kX n m) o e 2 [h] a)) (PE c k d a b (lS (kX n m) o e 2 [h] a)) b:=by refine mj (vQ z) λH J L=>?_;subst L;refine af (uw (k:=.type "enumerate") u.C u.E C.H H J (by decide+kernel) (by decide+kernel) (by decide+kernel) (by decide+kernel) ?_);refine((by rw[rQ B];rfl:bS x (bh [y] q)=(ak,bu y q)::bS x (bh [] q)))▸?_;refine dL (P:=c.K.In) rfl (xp _) (dm ?_);refine(El (u.ev B C)).h (g:=ul) G (λM N i t s O P Q R S=>⟨R.K,?_⟩) λ_ _ T=>T;obtain⟨a0,rfl,S⟩:=S;refine mQ (MT P) λa3 L U V=>?_;subst L;obtain⟨a4,rfl⟩:=S.m;refine aK (MU (h:=[]) (B:=λ_ _=>False) u.E.d U A R (ao E Q.i) λy W=>aF (F y W) Q.i) (λM a5 W=>?_) λ_ _ T=>T.elim;exact aK W (λa6 a7 X=>⟨_,i,t,s,ak,O.trans V,nofun,Q,R,X⟩) λ_ _ T=>T.elim
end
theorem Ew(e:Cx c n m k f q p)(g:qC (lc h p) p (pv r) v=Z (w,x))(i:At c k p q o d a b)(s:l<=li b.heap)(t:∀y∈j,y<li b.heap)(u:lS (kX n m) o z w x a≠.b):az (aC c.a c.w) f (bu v q) (xC c k f j l r z d a b (lS (kX n m) o z w x a)) (PE c k d a b (lS (kX n m) o z w x a)) b:=by
 rcases C8 g with⟨A,B,C⟩|⟨E,F,G,H,J,rfl,L,C,B⟩|⟨E,F,y,H,A,rfl,L,M,C,B⟩;·refine lA (ey B) λN O=>?_;subst N;subst O;exact MP e C i s t u
 ·obtain⟨rfl,rfl⟩:=ey B;exact MQ e L C i s t u
 ·refine lA (ey B) λN O=>?_;subst N;subst O;exact MV e L M C i s t u
end
end
noncomputable def oR(a:bL):List (aX×b8)->List (aX×aS)->List (aX×aS)|[],b=>b|(c,d)::e,b=>if d==.free then oR a e ((c,(a.cells.lookup c).getD 0)::b)else oR a e b
theorem Ex(a)(b)(c)(d)(e):oR a ((b,c)::d) e=if c==.free then oR a d ((b,(a.cells.lookup b).getD 0)::e)else oR a d e:=rfl
theorem xD(a)(b)(c)(d)(e):cT a ((b,c)::d) e=if c==.cell then cT (a+1) d ((b,a)::e)else cT a d e:=rfl
theorem Ey(a)(b)(c)(d):cj a ((b,c)::d)=if c==.cell then cj (a.push {cls:=.type "cell",data:=.cell D}) d else cj a d:=rfl
theorem MW(a:aX->Option b8)(b)(c)(d)(e:aX->Option ap):bindL a ((b,c)::d) e=bindL a d (if a b=Z .local thenλf=>if f=b then Z c else e f else e):=rfl
theorem MX(a:aX->Option b8)(b)(c)(d)(e:aX->Option ap):bindC a ((b,c)::d) e=bindC a d (if a b=Z .local then e elseλf=>if f=b then Z c else e f):=rfl
theorem MY(a:∀b,(b,bO)∈c.names->∃d,e.cells.lookup b=Z d):closureFor c e=ba (oR e c.names []):=by
 delta closureFor;dsimp only;have f:∀(g:List (aX×b8))(h:List (aX×aS)),(∀b,(b,bO)∈g->∃d,e.cells.lookup b=Z d)->(forIn g h λ(i:aX×b8)(j:List (aX×aS))=>(if i.2==.free then(do let k←cellOf e i.1;ba (bM ((i.1,k)::j)))else ba (bM j):gF (ForInStep (List (aX×aS)))))=ba (oR e g h):=by
  intro g;induction g with|nil=>intro h _;refine ah gQ ?_;rfl|cons i l m=>
   intro h n;obtain⟨b,o⟩:=i;rw[gu];rw[Ex];by_cases p:(o==bO)=I
   ·rw[if_pos p,if_pos p];have q:o=.free:=by simpa using p
    subst q;obtain⟨d,r⟩:=n b (aw ..);rw[(by unfold cellOf;exact r▸rfl:cellOf e b=ba d),r];exact m _ λs t=>n s (aq _ t)
   ·rw[if_neg p,if_neg p];exact m _ λs t=>n s (aq _ t)
 refine ah ?_ (f c.names [] a);simp only[bind_pure]
theorem MZ:∀(a:List (aX×b8))(b:List (aX×aS))(c:aX),((c,bO)∈a\/b.lookup c=d.cells.lookup c)->(∀e,(e,bO)∈a->∃f,d.cells.lookup e=Z f)->(oR d a b).lookup c=d.cells.lookup c:=by
 intro g;induction g with
 |nil=>
  intro b c h _;refine aB h (λh=>?_) (λh=>?_);·cases h
  ·exact h|cons i j k=>
  obtain⟨e,l⟩:=i;intro b c h m;have n:∀e,(e,bO)∈j->∃f,d.cells.lookup e=Z f:=λe o=>m e (aq _ o);by_cases p:(l==bO)=I
  ·refine ah (congrArg _ (if_pos p)) ?_;have q:l=.free:=by simpa using p
   subst q;refine k _ c ?_ n;by_cases r:c=e;·induction r;refine .inr ?_;refine lp (m c (aw ..)) λf s=>?_;refine ah be ?_;rw[s];simp
   ·refine aB h (λh=>?_) (λh=>?_)
    ·refine aB (List.mem_cons.mp h) (λh=>?_) (λh=>?_);·cases h;exact absurd rfl r
     ·exact .inl h
    ·refine .inr ?_;have:(c==e)=ak:=by simpa using r
     refine ah be ?_;exact this▸h
  ·refine ah (congrArg _ (if_neg p)) ?_;refine k b c ?_ n;rcases h with h|h
   ·refine aB (List.mem_cons.mp h) (λh=>?_) (λh=>?_);·refine lA (ey h) λt u=>?_;refine t▸?_;subst u;exact absurd rfl p
    ·exact .inl h
   ·exact .inr h
theorem M1:∀(a:List (aX×b8))(b:List (aX×aS))(c:aX)(d:aS),(∀c d,b.lookup c=Z d->e.cells.lookup c=Z d)->(∀f,(f,bO)∈a->∃d,e.cells.lookup f=Z d)->(oR e a b).lookup c=Z d->e.cells.lookup c=Z d:=by
 intro g;induction g with|nil=>
  intro b c d h _ i;exact h c d i|cons j k l=>
  obtain⟨f,m⟩:=j;intro b c d h n i;rw[Ex]at i;have o:∀f,(f,bO)∈k->∃d,e.cells.lookup f=Z d:=λf p=>n f (aq _ p);by_cases q:(m==bO)=I
  ·replace i:=(if_pos q)▸i;have r:m=.free:=by simpa using q
   subst r
   refine l _ c d (λs t u=>?_) o i;rw[be]at u;cases v:s==f with|true=>
    rw[v]at u;obtain rfl:=aa u;have:s=f:=by simpa using v
    subst this;refine lp (n s (aw ..)) λd i=>?_;refine i▸?_;rfl|false=>rw[v]at u;exact h s t u
  ·rw[if_neg q]at i;exact l b c d h o i
structure CA(W:Wd)(h:dk)(acc:List (aX×aS)):Prop where
 b:∀x y c,acc.lookup x=Z c->acc.lookup y=Z c->x=y
 a:∀x c,acc.lookup x=Z c->c∉W.as/\W.φ c=D/\∃v,h.IsCell c v
theorem CA.more:∀(c:List (aX×b8)){d:dk}{e:List (aX×aS)},CA f d e->(∀g,d.objs.size<=g->g∉f.as/\f.φ g=D)->CA f (cj d c) (cT d.objs.size c e):=by
 intro a
 induction a with|nil=>
  intro _ _ b _;exact b|cons h i j=>
  obtain⟨k,l⟩:=h;intro d e b m;rw[Ey,xD];by_cases n:(l==ck)=I
  ·rw[if_pos n,if_pos n];have o:(d.push {cls:=.type "cell",data:=.cell D}).IsCell d.objs.size D:=⟨_,aU _ rfl,rfl⟩;have:=j (d:=d.push {cls:=.type "cell",data:=.cell D}) (e:=(k,d.objs.size)::e) ⟨λp q r s t=>?_,λp r s=>?_⟩ (λg u=>m g (ao (by rw[aV];exact aL _) u));·rw[aV]at this;exact this
   ·rw[be]at s t;cases v:p==k with
    |true=>rw[v]at s;obtain rfl:=aa s;cases w:q==k with|true=>exact ah ((by simpa using v:p=k)) ((by simpa using w:q=k)).symm|false=>rw[w]at t;obtain⟨_,_,x,y⟩:=b.a q _ t;exact absurd y.lt (aZ _)
    |false=>rw[v]at s;cases w:q==k with|true=>rw[w]at t;obtain rfl:=aa t;obtain⟨_,_,x,y⟩:=b.a p _ s;exact absurd y.lt (aZ _)|false=>rw[w]at t;exact b.b p q r s t
   ·rw[be]at s;cases v:p==k with|true=>rw[v]at s;refine(aa s)▸?_;exact⟨(m _ (al _)).1,(m _ (al _)).2,_,o⟩|false=>rw[v]at s;refine mj (b.a p r s) λz A B=>lp B λx C=>?_;exact⟨z,A,x,C.keeps λE F G=>av _ G⟩
  ·rw[if_neg n,if_neg n];exact j b m
theorem M2:∀(a:List (aX×b8))(b:Nat)(c:List (aX×aS))(d:aX),((d,ck)∈a\/∃e,f<=e/\c.lookup d=Z e)->f<=b->∃e,f<=e/\(cT b a c).lookup d=Z e:=by
 intro g;induction g with
 |nil=>
  intro b c d h _;refine aB h (λh=>?_) (λh=>?_);·cases h
  ·exact h|cons i j k=>
  obtain⟨l,m⟩:=i;intro b c d h n;rw[xD];by_cases o:(m==ck)=I
  ·have p:m=.cell:=by simpa using o
   subst p;refine k (b+1) _ d ?_ (bo n);by_cases q:d=l;·refine q▸?_;exact .inr ⟨b,n,by simp[be]⟩
   ·rcases h with h|⟨e,r,s⟩
    ·refine aB (List.mem_cons.mp h) (λh=>?_) (λh=>?_);·cases h;exact absurd rfl q
     ·exact .inl h
    ·refine .inr ⟨e,r,?_⟩;have:(d==l)=ak:=by simpa using q
     refine ah be ?_;exact this▸s
  ·refine(if_neg o)▸?_;refine k b c d ?_ n;rcases h with h|h
   ·refine aB (List.mem_cons.mp h) (λh=>?_) (λh=>?_);·refine lA (ey h) λt u=>?_;induction t;induction u;exact absurd rfl o
    ·exact .inl h
   ·exact .inr h
theorem M3:∀(a:List (aX×b8))(b:Nat)(c:List (aX×aS))(d:aX),(d,ck)∉a->(cT b a c).lookup d=c.lookup d:=by
 intro e;induction e with|nil=>
  intro _ _ _ _;exact rfl|cons f g h=>
  obtain⟨i,j⟩:=f;intro b c d k;rw[xD];have l:(d,ck)∉g:=λm=>k (aq _ m);by_cases n:(j==ck)=I
  ·refine ah (congrArg _ (if_pos n)) ?_;refine ah (h _ _ d l) ?_;have o:j=.cell:=by simpa using n
   subst o;have p:(d==i)=ak:=by have:d≠i:=λq=>k (q▸(aw ..));simpa using this
   refine ah be ?_;exact p▸rfl
  ·refine ah (congrArg _ (if_neg n)) ?_;exact(h _ _ d l)
theorem Ez:∀(a:List (aX×b8))(b:dk),b.objs.size<=(cj b a).objs.size:=by
 intro c
 induction c with|nil=>
  intro b;exact al _|cons d e f=>
  obtain⟨g,h⟩:=d;intro b;rw[Ey];split;·exact ao (by rw[aV];exact aL _) (f _)
  ·exact f b
theorem M4{a}{b}{qual}{func}{c}{d}{e}{f:bL->am->Prop}(g:f {scope,locals:=h.heap.objs.size,globals,cells:=cT (h.heap.objs.size+1) scope.names b,qual,func,code:=d.code,frame:=d.frame,builtins:=d.builtins} {h with heap:=cj (h.heap.push {cls:=.type "dict",data:=.dict #[]}) scope.names}):az a i (newFunctionEnv scope globals b [] qual func c (Z d) e) f j h:=by refine af (wpAny_alloc ?_);refine af (wpAny_layCells _ (λk l m=>by cases n:l==ck<;>simp[n]) _ _ _ _ ?_);refine(show({h with heap:=h.heap.push {cls:=.type "dict",data:=.dict #[]}}:am).heap.objs.size=h.heap.objs.size+1 from aV ..)▸?_;exact af (au (au g))
section
section
variable{c:eT}{d:iF}{e:aN}{b:ek->am->Prop}{a:am}
structure Aw where
 M:Model
 A:aN
 env:bL
 elt:aj
 t:aj
 ifs:List aj
 it:ap
 acc:ap
noncomputable def EA(b:Aw)(c:ap->am->Prop)(d:am->Prop)(e:Bool)(a:am):Prop:=if e=I then az b.M b.A (bu b.elt b.env) (λf g=>az b.M b.A (bI (.builtin "list.append") [b.acc,f]) (λ_ h=>d h) c g) c a else d a
noncomputable def EB(b:Aw)(c:ap->am->Prop)(d:am->Prop)(e:ap)(a:am):Prop:=az b.M b.A (iw b.t b.env e) (λ_ f=>az b.M b.A (forIn b.ifs I λg h=>if h=I then do let i←isTrue g b.env (bu g b.env);ba (bM i)else ba (bM h)) (EA b c d) c f) c a
noncomputable def EE(c:Aw)(b:ek->am->Prop)(d:ap->am->Prop)(e:am->Prop):Option ap->am->Prop|D,a=>b (.ok .next) a|some f,a=>az c.M c.A (h_ c.t c.it f) (λ_ g=>EB c d e f g) d a
theorem M5(f:g.M=aC c d)(h:Nat->am->Prop)(i:∀j a k,h j a->az g.M g.A (pyNext g.it) (EE g b k λl=>∃m,m<j/\h m l) k a)(j)(n:h j a):dY (aC c d) g.A (.compLoop (.ListComp g.elt [⟨g.t,o,g.ifs,0⟩] p q) 0 g.it g.acc g.env) b a:=by obtain⟨r,e,s,t,u,v,w,x⟩:=g;subst f;refine codeAny_loop rfl h (λj a y=>?_) j n;show az _ e ((compTurn (.ListComp t [⟨u,o,v,0⟩] p q) 0 w x s).onRaise (λz=>do jy z s;theTreesLotGoes z)) _ _ a;refine wpAny_noted ?_;rw[compTurn_list];refine af (bC (af (aK (i j a _ y) (λA B C=>?_) λ_ _ E=>E)));induction A with|none=>exact au C|some F=>refine af (aK C (λ_ G H=>af (aK H (λ_ J L=>af (aK L (λM N O=>?_) λ_ _ E=>E)) λ_ _ E=>E)) λ_ _ E=>E);induction M with|false=>exact au ⟨rfl,O⟩|true=>exact af (af (aK O (λz P Q=>af (aK Q (λ_ l R=>au (au ⟨rfl,R⟩)) λ_ _ E=>E)) λ_ _ E=>E))
end
noncomputable def oj:Nat⊕List Nat->List Nat|.inl a=>[a]|.inr b=>b
theorem M6{a:Type}:∀(b:List (Nat×a))(c d:List (Nat×a))(e:Nat),(e∈b.map (·.1)\/kZ e c=kZ e d)->kZ e (b.foldl (λf g=>k9 g.1 g.2 f) c)=kZ e (b.foldl (λf g=>k9 g.1 g.2 f) d):=by
 intro h;induction h with
 |nil=>
  intro _ _ e i;refine aB i (λi=>?_) (λi=>?_);·cases i
  ·exact i|cons g b j=>
  intro c d e i;refine ah (congrArg _ eJ) ?_;refine ah (congrArg _ eJ) ?_;refine j _ _ e ?_;rw[oi,oi];by_cases k:e=g.1;·rw[if_pos k,if_pos k];exact .inr rfl
  ·rw[if_neg k,if_neg k];refine aB i (λi=>?_) (λi=>?_)
   ·refine aB (List.mem_cons.mp i) (λi=>?_) (λi=>?_);·exact absurd i k
    ·exact .inl i
   ·exact .inr i
theorem M7{a:Type}:∀(b:List (Nat×a))(c:List (Nat×a))(d:Nat),d∉b.map (·.1)->kZ d (b.foldl (λc e=>k9 e.1 e.2 c) c)=kZ d c:=by intro f;induction f with|nil=>intro _ _ _;exact rfl|cons e b g=>intro c d h;refine ah (congrArg _ eJ) ?_;refine ah (g _ d λi=>h (aq _ i)) ?_;rw[oi];exact(if_neg λi=>h (by exact i▸(aw ..)))
theorem Ax(a:List Nat)(b)(c):(a.zip b).foldl (λc d=>k9 d.1 (.a d.2) c) c=((a.zip b).map λd=>(d.1,LV.a d.2)).foldl (λc d=>k9 d.1 d.2 c) c:=by rw[List.foldl_map]
theorem M8(a:∀b,b∉oj c->kZ b d=kZ b e)(f:mJ c g d=Z h):∃i,mJ c g e=Z i/\(∀b,kZ b h=kZ b i)/\(∀b,b∉oj c->kZ b i=kZ b e):=by
 induction c with|inl j=>
  refine(aa f)▸?_;refine pQ _ rfl (λb=>?_) (λb k=>?_)
  ·rw[oi,oi];by_cases k:b=j;·exact ah (if_pos k) (if_pos k).symm
   ·refine ah ?_ (if_neg k).symm;refine ah (if_neg k) ?_;exact a b (by simpa[oj]using k)
  ·rw[oi,if_neg];simpa[oj]using k|inr l=>
  refine mQ (As f) λm n o p=>?_;refine n▸?_;refine p▸?_;have q:((l.zip m).map λr=>(r.1,LV.a r.2)).map (·.1)=l:=by refine ah b_ ?_;have:((λs:Nat×LV=>s.1)∘λr:Nat×V=>(r.1,LV.a r.2))=f7:=rfl;exact this▸(List.map_fst_zip ((Y [] [l.length,m.length] ⟨[1],[],[.E .a .b],.L .a .b⟩) o))
  refine pQ ((l.zip m).foldl (λt r=>k9 r.1 (.a r.2) t) e) (by show(bif l.length==m.length then _ else _)=_;refine o▸?_;rw[beq_self_eq_true];rfl) (λb=>?_) (λb k=>?_)
  ·rw[Ax,Ax];refine M6 _ _ _ b ?_;refine q.symm▸?_;by_cases k:b∈l;·exact .inl k
   ·exact .inr (a b k)
  ·rw[Ax];exact M7 _ _ b (q.symm▸(k))
section
variable{d:Gd}{f:List bL}{p:aN}{g q:Wd}{h r:MS}{i s:am}{u:PT}{v j:Nat}{c:CC}{b:bL}{l w m:Ro}{y:List aS}{n:Nat->Prop}{o:Nat->aS}{z:aX->Prop}
theorem Fs.e(a:Fs d f c b n o j l g h i)(e:∀x,kZ x l=kZ x m):Fs d f c b n o j m g h i:=⟨⟨a.t.H,a.t.K,λk p q r s=>a.t.R k p q r ((e p).trans s),a.t.L⟩,a.b,λp t u v=>a.a.1 p t u ((e p).trans v),λp x t w y z r s=>a.a.2 p x t w y z ((e p).trans r) ((e x).trans s)⟩
theorem M9(a):(relabel e b).names.lookup a=(match e.names.lookup a with|some .free=>if(b.scope.kind==.function&&b.kindOf a==Z .cell)=I then Z .cell else Z .free|k=>k):=by
 unfold relabel;dsimp only;induction e.names with|nil=>rfl|cons c d f=>
  obtain⟨g,k⟩:=c;refine ah (congrArg _ dr) ?_;dsimp only;by_cases h:(k==.free&&b.scope.kind==.function&&b.kindOf g==Z .cell)=I
  ·rw[if_pos h,be,be];cases i:a==g with|false=>exact f|true=>
    have j:a=g:=by simpa using i
    subst j;simp only[aJ]at h;have l:k=.free:=by simpa using h.1.1
    subst l;simp only[h.1.2,h.2,Bool.and_self,if_true]
  ·rw[if_neg h,be,be];cases i:a==g with|false=>exact f|true=>
    have j:a=g:=by simpa using i
    subst j;induction k<;>first|rfl|skip
    have:¬(b.scope.kind==.function&&b.kindOf a==Z .cell)=I:=by exact h
    simp only[this,if_false,fj]
noncomputable def pB(a:kR)(b:bL)(c:aS):bL:={scope:=relabel a b,locals:=c,globals:=b.globals,cells:=cT (c+1) a.names (oR b a.names []),qual:=b.qual,func:=D,code:=b.code,frame:=b.frame,builtins:=b.builtins}
structure EF(c:CC)(t:aj)(scope:kR):Prop where
 a:scope.kind=.function
 qR:∀x∈oB t,scope.names.lookup x=Z .local\/scope.names.lookup x=Z .cell
 same:∀x k,(x,k)∈scope.names->scope.names.lookup x=Z k
 name:∀x k,(x,k)∈scope.names->Da c t x k=I
theorem vT(a:nU e=I):e=Z .local\/e=Z .cell:=by induction e with|none=>exact ft a|some e=>induction e with|«local»=>exact .inl rfl|cell=>exact .inr rfl|_=>exact ft a
theorem M_(a:tq c e k=I):EF c e k:=by
 unfold tq at a;simp only[aJ,dB,beq_iff_eq]at a;refine lA a λb d=>lA b λf g=>?_;refine⟨f,λh i=>?_,λh j l=>?_,λh j l=>(d (h,j) l).2⟩;·exact vT (g h i)
 ·exact(d (h,j) l).1
theorem uE{a:Type}:∀{e:List (aX×a)}{k:aX}{t:a},e.lookup k=Z t->(k,t)∈e:=λ{e}{k}{t}b=>kx b
end
end
section
noncomputable def nL(a:CC)(b:kR):CC:={a with sc:=b.names,j:=[]}
section
variable{h:Gd}{j:List bL}{m:aN}{k r:Wd}{n s:MS}{c t:am}{u:PT}{o p:Nat}{e:CC}{d:bL}{i v w:Ro}{l:List aS}{q:Nat->aS}{g:aj}{b:kR}{f:Nat⊕List Nat}
theorem nh.nL(a:nh h e):nh h (nL e b):=⟨a.g,a.c,a.d,a.e,a.b,a.h⟩
theorem Na(a:o8 x g=Z f)(b:y∈oB g)(c:x.b y=Z z):z∈oj f:=by
 refine aB (C6 a) (λd=>nZ d λe h i j k l=>?_) (λm=>yR m λn o h p q k r=>?_);·subst j;refine l▸?_;have s:y=e:=List.mem_singleton.mp b;subst s;rw[c]at k;refine(aa k)▸?_;exact List.mem_singleton.mpr rfl
 ·subst q;refine r▸?_;have t:∀(n:List aj)(p:List Nat),lL (sy x) n=Z p->(y∈n.flatMap C_)->z∈p:=by
   intro n;induction n with|nil=>intro p _ u;simp at u|cons s n v=>
    intro p w u;refine lP (nB w) λi A B C E=>?_;subst E;refine mB (xd B) λe F E G=>?_;subst E;rcases List.mem_append.mp u with u|u;·have s:y=e:=List.mem_singleton.mp u;subst s;rw[c]at G;refine(aa G)▸?_;exact aw ..
    ·exact aq _ (v A C u)
  exact t n p k b
structure Nb(h:Gd)(j:List bL)(m:aN)(e:CC)(d:bL)(g:aj)(b:kR)(f:Nat⊕List Nat)(l:List aS)(C₀:aS):Prop where ev:Ev j m (pB b d C₀) (nL e b)a:Fv h (nL e b) (pB b d C₀) (λx=>x∈oB g) C₀ l
theorem EH(a:C9 x=I):x=Z .cell\/x=Z .free:=by induction x with|none=>exact ft a|some x=>induction x with|cell=>exact .inl rfl|free=>exact .inr rfl|_=>exact ft a
theorem Ay{a:Type}(x)(y:Nat×a)(z):kZ x (y::z)=bif y.1==x then Z y.2 else kZ x z:=rfl
theorem EI{a:Type}(x:Nat->Bool)(y)(i:List (Nat×a)):kZ y (i.filter λz=>x z.1)=bif x y then kZ y i else D:=by
 induction i with|nil=>cases x y<;>rfl|cons z b c=>
  refine ah (congrArg _ cq) ?_;rw[Ay];cases d:z.1==y with
  |true=>refine(show x z.1=x y by exact(aG d)▸rfl).symm▸?_;cases e:x y with|true=>refine ah (congrArg _ (if_pos rfl)) ?_;rw[Ay,d];rfl|false=>refine ah (congrArg _ (if_neg dQ)) ?_;refine ah c ?_;refine e.symm▸?_;rfl
  |false=>cases e:x z.1 with|true=>refine ah (congrArg _ (if_pos rfl)) ?_;rw[Ay,d];exact c|false=>refine ah (congrArg _ (if_neg dQ)) ?_;refine ah c ?_;rfl
theorem Az(a:d.kindOf x=Z .local):m6 d x=d.locals:=if_pos a
theorem AA(a:d.kindOf x=Z .cell)(b:d.cells.lookup x=Z y):m6 d x=y:=(if_neg (by refine a▸?_;decide)).trans (congrArg (·.getD 0) b)
theorem Nc(a:EF e g b)(a0:nh h e)(r:Ev j m d e)(s:At h j e d i k n c)(a3:o8 (nL e b) g=Z f)(a4:∀x∈l,x<c.heap.objs.size):Nb h j m e d g b f l c.heap.objs.size/\∃a5,(∀y,y∉oj f->kZ y a5=kZ y i)/\Fs h j (nL e b) (pB b d c.heap.objs.size) (λ_=>False) q p a5 k n {c with heap:=cj (c.heap.push {cls:=.type "dict",data:=.dict #[]}) b.names}:=by
 have t:∀u,(u,bO)∈b.names->(e.sc.lookup u=Z .cell\/e.sc.lookup u=Z .free):=λu v=>EH (a.name u _ v);have w:∀u,(u,bO)∈b.names->∃z,d.cells.lookup u=Z z:=λu v=>(r.f u (t u v)).2;have A:(c.heap.push {cls:=.type "dict",data:=.dict #[]}).objs.size=c.heap.objs.size+1:=aV ..;have a6:∀u,b.names.lookup u=Z .free->(u,ck)∉b.names:=λu B C=>by rw[a.same u _ C]at B;exact absurd B (by decide)
 have a7:∀u,b.names.lookup u=Z .free->(cT (c.heap.objs.size+1) b.names (oR d b.names [])).lookup u=d.cells.lookup u:=λu B=>by refine ah (M3 _ _ _ _ (a6 u B)) ?_;exact MZ _ _ u (.inl (uE B)) w
 have E:CA k (cj (c.heap.push {cls:=.type "dict",data:=.dict #[]}) b.names) (cT (c.heap.objs.size+1) b.names (oR d b.names [])):=by have F:∀u z,(oR d b.names []).lookup u=Z z->d.cells.lookup u=Z z:=λu z B=>M1 b.names [] u z (λu z B=>by simp at B) w B;have a8:CA k (c.heap.push {cls:=.type "dict",data:=.dict #[]}) (oR d b.names []):=⟨λu a9 z G H=>r.b u a9 z (F u z G) (F a9 z H),λu z B=>by refine mj (s.L u z (F u z B)) λJ L b0=>lp b0 λb1 b2=>?_;exact⟨J,L,b1,b2.keeps λb3 M N=>av _ N⟩⟩;have:=a8.more b.names λx O=>⟨s.H.r (by unfold li;rw[A]at O;exact vh O),s.H.i (by unfold li;rw[A]at O;exact vh O)⟩;rwa[A]at this
 have b4:∀u,b.names.lookup u=Z .cell->∃z,c.heap.objs.size<=z/\(cT (c.heap.objs.size+1) b.names (oR d b.names [])).lookup u=Z z:=λu B=>M2 (f:=c.heap.objs.size) b.names _ _ u (.inl (uE B)) (aL _);have P:∀u,(pB b d c.heap.objs.size).kindOf u=(match b.names.lookup u with|some .free=>if(d.scope.kind==.function&&d.kindOf u==Z .cell)=I then Z .cell else Z .free|S=>S):=λu=>M9 u;have b5:∀u,b.names.lookup u=Z .cell->(pB b d c.heap.objs.size).kindOf u=Z .cell:=λu B=>by rw[P,B]
 have b6:∀u,b.names.lookup u=Z .local->(pB b d c.heap.objs.size).kindOf u=Z .local:=λu B=>by rw[P,B]
 have c1:∀u,b.names.lookup u=Z .free->(pB b d c.heap.objs.size).kindOf u=Z .cell\/(pB b d c.heap.objs.size).kindOf u=Z .free:=λu B=>by
  rw[P,B];dsimp only;split;·exact .inl rfl
  ·exact .inr rfl
 have c2:Ev j m (pB b d c.heap.objs.size) (nL e b):=by
  refine⟨a.a,λu B=>?_,λu B=>?_,E.b,r.e,r.bi,r.d,r.g⟩;·have Q:b.names.lookup u=Z .globalImplicit:=B;rw[P,Q]
  ·rcases B with B|B;·refine ll (b4 u B) λz _ c3=>?_;exact⟨.inl (b5 u B),z,c3⟩
   ·refine lp (w u (uE B)) λz c3=>?_;exact⟨c1 u B,z,(a7 u B).trans c3⟩
 have c4:∀u,u∈oB g->c.heap.objs.size<=m6 (pB b d c.heap.objs.size) u:=λu R=>by exact(a.qR u R).elim (λB=>(Az (b6 u B)).symm▸al _) λB=>ll (b4 u B) λz G H=>(AA (b5 u B) H).symm▸G
 refine⟨⟨c2,⟨a.a,a0.d,λu R=>?_,λu B=>?_,E.b,c4,λu R C=>aZ _ (aF (a4 _ C) (c4 u R))⟩⟩,i.filter (λc5=>!(oj f).contains c5.1),?_,?_⟩;·exact(a.qR u R).imp (b6 u) (b5 u)
 ·have Q:=B;rw[P]at Q;have c6:∀M,b.names.lookup u=M->(match M with|some .free=>if(d.scope.kind==.function&&d.kindOf u==Z .cell)=I then Z .cell else Z .free|S=>S)=Z ck->M=Z .cell\/M=Z .free:=λM _ T=>by induction M with|none=>exact nn T|some S=>induction S with|cell=>exact .inl rfl|free=>exact .inr rfl|_=>exact .inl T
  exact(c2.f u (c6 _ rfl Q)).2
 ·intro y d0;rw[EI (λU=>!(oj f).contains U),show(!(oj f).contains y)=I by simpa using d0];rfl
 ·have V:∀x M,c.heap.get? x=Z M->(cj (c.heap.push {cls:=.type "dict",data:=.dict #[]}) b.names).get? x=Z M:=λx M N=>jL _ _ _ _ (av _ N);have d1:li c.heap<=li (cj (c.heap.push {cls:=.type "dict",data:=.dict #[]}) b.names):=ao (by refine A▸?_;exact aL _) (Ez b.names _);have d2:∀{l o},Gr l o k n c k n {c with heap:=cj (c.heap.push {cls:=.type "dict",data:=.dict #[]}) b.names}:=Gr.h (tk:=c.toks) V d1;have d3:=s.H.h (tk:=c.toks) V;have d4:=s.d d2 d3;have d5:Cl k (pB b d c.heap.objs.size) {c with heap:=cj (c.heap.push {cls:=.type "dict",data:=.dict #[]}) b.names}:=λu z B=>E.a u z B;refine⟨⟨d3,d4.K,λu U d6 d7 W=>?_,d5⟩,⟨⟨_,(Heap.Ns.new c.heap (.type "dict")).keeps (jL _ _)⟩,s.H.r (al _),s.H.i (al _),d5⟩,λU d8 e0=>e0.elim,λU y d8 e1 e0=>e0.elim⟩;have e2:U∉oj f/\kZ U i=Z (.a d6):=by rw[EI (λU=>!(oj f).contains U)]at W;cases C:(!(oj f).contains U)with|false=>rw[C]at W;exact nn W|true=>rw[C]at W;exact⟨by simpa using C,W⟩
  refine lA e2 λe3 e4=>?_;have e5:e.id u=Z U:=CC.k (r:=nL e b) d7;have X:b.names.lookup u=Z .free:=by
   have e6:∀S,b.names.lookup u=Z S->(S=.local\/S=.cell)->False:=λS N V=>by
    have e7:=a.name u S (uE N);have:((oB g).contains u||e.id u==D)=I:=by rcases V with rfl|rfl<;>exact e7
    rw[e5]at this;exact e3 (Na a3 (by simpa using this:u∈oB g) d7)
   refine ll (CC.l (n:=nL e b) d7).1 λS N V=>?_;induction S with|«local»=>exact(e6 _ N (.inl rfl)).elim|cell=>exact(e6 _ N (.inr rfl)).elim|free=>exact N|_=>exact ft V
  have e8:e.b u=Z U:=by exact(t u (uE X)).elim (λN=>(CC.m N rfl).trans e5) λN=>(CC.m N rfl).trans e5
  refine ll (d4.R u U d6 e8 e4) λb1 e9 f1=>?_;refine lQ b1 e9 ?_;have f2:=(r.f u (t u (uE X))).1;rcases f1 with⟨S,_⟩|⟨S,z,J,L,b2⟩;·rw[S]at f2;rcases f2 with T|T<;>cases T
  ·exact .inr ⟨c1 u X,z,J,(a7 u X).trans L,b2⟩
end
end
section
section
variable{h:Gd}{l:List bL}{s:aN}{e m:Wd}{S S':MS}{d k:am}{j:PT}{n t:Nat}{o:CC}{f:bL}{g v w:Ro}{x:List aS}{q:Nat->aS}{r:Nat->Prop}{y:aX->Prop}{p u:Type}
theorem Kp.ns(a:Kp e d m k)(b:d.heap.Ns i z):k.heap.Ns i z:=nZ b λc f g h j l=>sa c f g (a.c i c h λ_=>uo j) j l
theorem Kp.a(a:Kp e d m k)(b:d.heap.IsCell i z):k.heap.IsCell i z:=ll b λc f g=>lQ c (a.c i c f λ_=>Ct g) g
theorem Nd{a:dk}(b:a.Ns c i):∃z,a.get? c=Z z:=(xy b).imp λ_ a=>a.1
theorem Kp.b(a:Kp e d m k)(b:pA e f d):xw f e d.heap m k.heap:=lp b.ns λc g=>lp (Nd g) λh i=>⟨λ_=>a.ns,a.g _ h i,a.e _ h i,λ_ _=>a.a,λ_ _ j=>ll j λb l _=>a.g _ b l,λ_ _ j=>ll j λb l _=>a.e _ b l⟩
theorem Fs.c(a:Fs h l o f r q t g e S d)(b:Kp e d m k)(c:e.le m)(i:HS h m S k):Fs h l o f r q t g m S k:=a.to (b.b a.b) c i (a.t.K.to (λj n p s _ u v=>⟨n,b.c j n u λ_=>uo v,rfl⟩) (λj n p s u _=>b.e _ n u) (λj n p s u _=>b.g _ n u)) λw x y _ _ z A B=>lp z λC E=>⟨⟨C,b.c _ _ E λ_=>wY rfl⟩,b.g _ _ E A,b.e _ _ E B⟩
theorem Fs.i(a:Fs h l o f r q t g e S d)(b:d.heap.PlainList z A)(c:bA z d.heap B)(i:z∉e.as)(j:e.φ z=D)(k:∀C E,r C->kZ C g=Z (.b E)->q C≠z):Fs h l o f r q t g e S {d with heap:=B,toks:=F}:=a.to ⟨λ_ n=>n.sameBut c (xx b (xy n)),λm=>m,λm=>m,λ_ _ p=>p.sameBut c (Mo b p),λ_ _ _ m=>m,λ_ _ _ m=>m⟩ (e.a) (a.t.H.f c i j) (a.t.K.to (λs u v w _ m x=>⟨u,(c.2 s (xx b ⟨u,m,v,w,x⟩)).trans m,rfl⟩) (λ_ _ _ _ _ _ m=>m) (λ_ _ _ _ _ _ m=>m)) λC E y G H J L M=>⟨J.imp λ_ J=>(c.2 _ (k C E G H)).trans J,L,M⟩
theorem EJ{a:M p}{b:p}(c:qz a S=.ok b S'):a S=.ok b S'/\S'.mu=S.mu:=by
 unfold qz at c;cases d:a S with|ok e j=>
  rw[d]at c;by_cases f:j.mu=S.mu;·refine lA (vy (show R.ok e j=.ok b S' from(if_pos f).symm.trans c)) λg h=>?_;induction g;induction h;exact⟨rfl,f⟩
  ·exact nomatch(if_neg f).symm.trans c|c i j=>rw[d]at c;exact nomatch c|b=>rw[d]at c;exact nomatch c
theorem EK{a:M p}(b:qz a S=.c c S'):False:=by
 unfold qz at b;cases d:a S with|ok e j=>
  rw[d]at b;by_cases f:j.mu=S.mu;·exact nomatch(if_pos f).symm.trans b
  ·exact nomatch(if_neg f).symm.trans b|c c j=>rw[d]at b;exact nomatch b|b=>rw[d]at b;exact nomatch b
theorem lO{b:M p}{c:p->M u}{i:u}(d:M.bind b c S=.ok i S'):∃a z,b S=.ok a z/\c a z=.ok i S':=by unfold M.bind at d;cases e:b S with|ok a z=>rw[e]at d;exact r_ a z rfl d|c f z=>rw[e]at d;contradiction|b=>rw[e]at d;contradiction
theorem uF{a:M p}{b:p->M u}(c:M.bind a b S=.c i S'):a S=.c i S'\/∃z A,a S=.ok z A/\b z A=.c i S':=by unfold M.bind at c;cases d:a S with|ok z A=>rw[d]at c;exact .inr ⟨z,A,rfl,c⟩|c e A=>replace c:=d▸c;cases c;exact .inl rfl|b=>rw[d]at c;contradiction
theorem Nf{a}:∀(b:List V)(S:MS)(c:XC)(S':MS),n8 a g i z A b S≠.c c S':=by
 intro b;induction b with|nil=>exactλS c S' d=>by cases d|cons e f h=>
  intro S c S' d;have d:M.lG (mJ i e g) _ S=_:=d;cases j:mJ i e g with|none=>replace d:=j▸d;cases d|some v=>
   rw[j]at d;refine aB (uF d) (λd=>?_) (λk=>mB k λl m _ d=>?_);·exact EK d
   ·induction l with
    |true=>
     refine aB (uF (d:M.bind _ _ _=_)) (λd=>?_) (λk=>mB k λn o _ d=>?_);·exact EK d
     ·refine aB (uF d) (λd=>?_) (λk=>mB k λp q _ d=>?_);·exact h _ _ _ d
      ·cases d|false=>exact h _ _ _ d
theorem Ng(a:Q ak d):∀b:List aj,az (aC h.a h.w) s (forIn b ak λc i=>if i=I then do let z←isTrue c f (bu c f);ba (bM z)else ba (bM i)) Q A d:=by intro e;induction e with|nil=>rw[gQ];exact au a|cons c b g=>rw[gu];exact af (au (g))
theorem Nh(a:Cx h j n l s f o):∀{b:List aj}{c:List ls}{e:Wd}{S:MS}{d:am},lL (lc i o) b=Z c->At h l o f g e S d->kY h l s (forIn b I λz A=>if A=I then do let B←isTrue z f (bu z f);ba (bM B)else ba (bM A)) (oZ (kX j n) g c) (λ_ C z=>C=z) e S d:=by intro k;induction k with|nil=>intro c e S d m p;refine(oh m)▸?_;rw[gQ];exact kY.pure p.H rfl|cons z b q=>intro c e S d m p;refine lP (nB m) λr t u v w=>?_;subst w;rw[gu];simp only[if_true,du,pure_bind];refine(kY.bind (a.b u p) λC x y E F G H J=>?_:kY h l s _ (M.bind ((kX j n).b g r) λC=>bif C then oZ (kX j n) g t else M.pure ak) _ e S d);subst J;induction C with|true=>exact q v (p.d G H)|false=>exactλ_=>Ng (PO.a (Rel:=λ_ C z=>C=z) H rfl) b
end
end
section
section
variable{b:Gd}{k:List bL}{u:aN}{o J:Wd}{S S' B:MS}{q z:am}{C:PT}{A r:Nat}{n:CC}{l:bL}{w L F:Ro}{x:Nat->aS}{G:Bool}{E h:aS}{s:Nat->Wd->am->Prop}{t H:List V}
structure oS(o:Wd)(h:aS)(yv:List ap)(y:List V)(q:am):Prop where
 p:q.heap.PlainList h yv.toArray
 v:lx o yv y
 g:h∉o.as
 e:o.φ h=D
theorem oS.d(a:oS o h i j q)(b:Gr FA (li q.heap) o S q J S' z)(c:∀a∈FA,∃m,q.heap.get? a=Z m/\∃y N,m.data=.dict y N):oS J h i j z:=by
 obtain⟨⟨d,e⟩,f,g,k⟩:=a;have l:h<li q.heap:=nJ e;have n:h∉FA:=λp=>by refine ll (c h p) λm r s=>mY s λy N t=>?_;rw[e]at r;obtain rfl:=aa r;contradiction
 exact⟨⟨d,b.l h _ g n l e⟩,f.k b.le,b.B g l,b.e k l⟩
theorem oS.c(a:oS o h i j q)(b:Kp o q J z)(c:o.le J):oS J h i j z:=by refine gz λd e=>?_;obtain⟨⟨f,g⟩,k,l,m⟩:=a;refine e ?_;exact⟨⟨f,b.c h _ g (λn p=>by contradiction)⟩,k.k c,b.g h _ g l,b.e h _ g m⟩
theorem xE{a:dk}(b:a.PlainList c d):∃e,a.get? c=Z e/\∀f,e.data≠.fields f:=by obtain⟨g,b⟩:=b;exact lQ _ b (λf h=>by contradiction)
theorem oS.f(a:oS o h i j q){b}(c:qF o l m b q.heap y):oS o h i j {q with heap:=y,toks:=tk}:=by
 refine gz λd e=>?_;obtain⟨⟨f,g⟩,b,k,n⟩:=a;refine e ?_;refine⟨⟨f,(c.a.2 h λp=>?_).trans g⟩,b,k,n⟩;refine ll c.kZ λr s t=>?_;replace s:=g▸p▸s;refine aB t (λu=>mY u λv w t=>?_) (λx=>lp x λz t=>?_);·rw[←aa s]at t;contradiction
 ·rw[←aa s]at t;contradiction
structure CL(b:Gd)(k:List bL)(n:CC)(l:bL)(x:Nat->aS)(r:Nat)(s:Nat->Wd->am->Prop)(h:aS)(o:Wd)(S:MS)(q:am)(i:Nat)(ρc:Ro)(yv:List ap)(y:List V)(W₁:Wd)(S₁:MS)(s₁:am):Prop where
 g:Gr (lB k) r o S q W₁ S₁ s₁
 f:Fs b k n l (λ_=>False) x r ρc W₁ S₁ s₁
 a:s i W₁ s₁
 ac:oS W₁ h yv y s₁
section
variable{f i:Wd}{a v:MS}{M d:am}{e:Nat}{p:Ro}{g:List ap}{y:List V}{N R:aj}{P:Nat⊕List Nat}{O:ls}{T:List ls}
theorem EL(c:p6 b u (lB k) r G N E t s)(j:r<=h)(m:CL b k n l x r s h o S q e p g y f a M)(w:Gr (lB k) (li M.heap) f a M i v d)(z:HS b i v d)(A:v.mu=a.mu):CL b k n l x r s h o S q e p g y i v d:=⟨m.g.a (w.r (ao j (bB (by obtain⟨B,C⟩:=m.ac.p;exact nJ C))) (λ_ F=>F) (λ_ F=>.inl F)),m.f.d w z,c.l _ _ _ _ _ _ _ (lB k) _ m.a m.f.t.H w z (al _) m.f.t.K.k (.inl A),m.ac.d w m.f.t.K.k⟩
theorem Ni(c:Cx b C A k u l n)(i:Fv b n l (λj=>j∈oB N) r (lB k))(m:p6 b u (lB k) r G N E t s)(v:o8 n N=Z P)(w:CL b k n l x r s h o S q e p g y f a M)(B:VI f U W)(a0:mJ P W p=Z F)(a3:∀d,CL b k n l x r s h o S q e F g y f a d->Q () d):az (aC b.a b.w) u (iw N l U) Q a4 M:=by
 have a5:o_ f l (λj=>j∈oB N) (λz=>s e f z/\HS b f a z/\oS f h g y z/\mU k f z):=by
  refine⟨λz H J L O a6=>?_,λz j U H J L a7 R=>?_⟩;·have T:=L.2.1.h (tk:=J) O;have V:∀{X A},Gr X A f a z f a {z with heap:=H,toks:=J}:=Gr.h O a6;exact oK (m.l e f a z f a _ (lB k) (li z.heap) L.1 L.2.1 V T (al _) L.2.2.2.k (.inl rfl)) T (L.2.2.1.d (S:=a) (S':=a) (FA:=lB k) V L.2.2.2.k) (L.2.2.2.d (S:=a) (S':=a) (l':=k) V λa8 a9=>L.2.2.2.lt a9)
  ·exact oK (m.f e f a z _ H J L.1 L.2.1 R.a R.g R.e R.d) (L.2.1.f R.a R.g R.e) (L.2.2.1.f R) (L.2.2.2.f R.a R.c)
 exact Au a5 ⟨w.a,w.f.t.H,w.ac,w.f.t.K⟩ c.E.d i w.f v (λj b0=>b0) B a0 λb1 L b2 b3=>a3 b1 ⟨w.g.a b2,b3,L.1,L.2.2.1⟩
theorem Nj(c:Cx b C A k u l n)(j:p6 b u (lB k) r G N E t s)(m:lc a0 n R=Z O)(w:r<=h)(z:h∉lB k)(B:∀U,kZ U p=kZ U F)(H:CL b k n l x r s h o S q e p g y f a M)(J:(kX C A).ev F O a=.ok W v)(L:v.mu=a.mu)(a3:g.length<=8192){P:ap->am->Prop}(a4:∀i X a5 d,CL b k n l x r s h o S q e p (g++[X]) (y++[W]) i v d->P a5 d):az (aC b.a b.w) u (bu R l) (λX a6=>az (aC b.a b.w) u (bI (.builtin "list.append") [.ref h,X]) P a7 a6) a7 M:=by refine(c.ev m (H.f.e B).t).l J λX i d a8 Q a9=>?_;have T:=EL j w H a8 Q L;refine er T.ac.p (λb0 b1 V=>a4 i X _ _ ⟨T.g.a (Gr.f (tk:=d.toks) V w z),T.f.i (F:=d.toks) T.ac.p V T.ac.g T.ac.e (λe b2 b3=>b3.elim),j.f e i v d h b0 d.toks T.a Q V T.ac.g T.ac.e (xE T.ac.p),?_⟩) (by refine aR▸?_;refine m5▸?_;exact lk a3 rfl);exact⟨by simpa using b1,T.ac.v.f (.b a9 .c),T.ac.g,T.ac.e⟩
inductive Nk(b:Gd)(k:List bL)(C:PT)(A:Nat)(n:CC)(l:bL)(x:Nat->aS)(r:Nat)(w:Ro)(P:Nat⊕List Nat)(O:ls)(T:List ls)(s:Nat->Wd->am->Prop)(h:aS)(t H:List V)(B:MS)(o:Wd)(S:MS)(q:am)(m:Nat)(M:am):Prop|mk(e:Nat)(f:Wd)(a:MS)(p:Ro)(g:List ap)(y rest:List V)(h1:m=t.length+1-e)(h2:e<=t.length)(c:CL b k n l x r s h o S q e p g y f a M)(h5:∀j,j∉oj P->kZ j p=kZ j w)(h8:g.length<=e)(h9:n8 (kX C A) w P O T (t.drop e) a=.ok rest B)(h10:y++rest=H)
theorem Nl(c:Cx b C A k u l n)(j:p6 b u (lB k) r G N E t s)(J:lc a7 n R=Z O)(L:lL (lc a7 n) m=Z T)(w:r<=h)(P:h∉lB k)(Q:g.length<=8192)(z:∀U,kZ U p=kZ U F)(B:CL b k n l x r s h o S q e p g y f a M)(V:oZ (kX C A) F T a=.ok W v)(a8:v.mu=a.mu)(a9:W=ak->∀i d,CL b k n l x r s h o S q e p g y i v d->X d)(b0:W=I->∃a0 a3,(kX C A).ev F O v=.ok a0 a3/\a3.mu=v.mu/\∀i a4 d,CL b k n l x r s h o S q e p (g++[a4]) (y++[a0]) i a3 d->X d):az (aC b.a b.w) u (forIn m I λa4 a5=>if a5=I then do let a6←isTrue a4 l (bu a4 l);ba (bM a6)else ba (bM a5)) (EA ⟨aC b.a b.w,u,l,R,N,m,b1,.ref h⟩ b2 X) b2 M:=by refine(Nh c L (B.f.e z).t).l V λa6 b3 b4 b5 b6 c1=>?_;have H:=EL j w B b5 b6 a8;subst c1;induction a6 with|false=>exact a9 rfl _ _ H|true=>refine lP (b0 rfl) λa0 a3 c2 c3 c4=>?_;exact Nj c j J w P z H c2 c3 Q λi a4 _ d c5=>c4 i a4 d c5
end
section
variable{f m:aj}{p:List aj}{g e:Nat}{a:Nat⊕List Nat}{c:ls}{d:List ls}{v:Ro}{i:List ap}{y O:List V}{P:Wd}{j:MS}{N:am}
theorem Nm{b}(e:mJ a T w=D):n8 b w a c d (T::t) S≠.ok U B:=λf=>by have f:M.lG (mJ a T w) _ S=_:=f;rw[e]at f;exact nomatch f
theorem Nn{b}(e:mJ a T w=Z F)(f:n8 b w a c d (T::t) S=.ok U B){W:Prop}(g:∀X a0,oZ b F d S=.ok X a0->a0.mu=S.mu->(X=ak->n8 b w a c d t a0=.ok U B)->(X=I->∃T a3,b.ev F c a0=.ok T a3/\a3.mu=a0.mu/\∃a4,n8 b w a c d t a3=.ok a4 B/\T::a4=U)->W):W:=by
 have f:M.lG (mJ a T w) _ S=_:=f;rw[e]at f;refine mB (lO f) λX a0 h f=>?_;refine lA (EJ h) λi j=>?_;refine g X a0 i j (λk=>?_) λk=>?_;·rw[k]at f;exact f
 ·rw[k]at f;refine mB (lO f) λl a3 m f=>?_;refine gz λn o=>?_;obtain⟨p,q⟩:=EJ m;refine mB (lO f) λa4 r s u=>?_;obtain⟨v,x⟩:=vy u;refine o ?_;exact⟨l,a3,p,q,a4,x▸s,v⟩
theorem No(L:Cx b C A k u l n)(M:Fv b n l (λT=>T∈oB f) r (lB k))(z:p6 b u (lB k) r G f E t s)(Q:o8 n f=Z a)(R:lc g n m=Z c)(V:lL (lc g n) p=Z d)(a7:r<=h)(a8:h∉lB k)(a9:i.length<=8192)(F:CL b k n l x r s h o S q e v i y P j N)(b0:∀U,U∉oj a->kZ U v=kZ U w){W}(b1:t[e]?=Z W)(b2:n8 (kX C A) w a c d (W::t.drop (e+1)) j=.ok O B){b3:ek->am->Prop}(b4:∀X a0 a3 b5 b6 a4 a5,CL b k n l x r s h o S q (e+1) a3 b5 b6 X a0 a5->(∀U,U∉oj a->kZ U a3=kZ U w)->b5.length<=i.length+1->n8 (kX C A) w a c d (t.drop (e+1)) a0=.ok a4 B->b6++a4=y++O->c1 a5):az (aC b.a b.w) u (pyNext (.ref E)) (EE ⟨aC b.a b.w,u,l,m,f,p,.ref E,.ref h⟩ b3 a6 c1) a6 N:=by
 refine aK (z.item e P j N W (EB ⟨aC b.a b.w,u,l,m,f,p,.ref E,.ref h⟩ a6 c1) a6 F.a F.f.t.H b1 λc2 X a5 H c3 c4 c5 c6=>?_) (λd0 a5 d1=>?_) λ_ _ T=>T;·have d2:CL b k n l x r s h o S q (e+1) v i y X j a5:=⟨F.g.a H,F.f.c c6 H.le c3,c5,F.ac.c c6 H.le⟩;cases d3:mJ a W w with|none=>exact absurd b2 (Nm d3)|some d4=>refine mQ (M8 (λU J=>(b0 U J).symm) d3) λa3 d5 d6 d7=>?_;refine Ni L M z Q d2 c4 d5 λd8 e0=>Nn d3 b2 λe1 a0 e2 e3 e4 e5=>?_;have e6:∀U,U∉oj a->kZ U a3=kZ U w:=λU J=>(d7 U J).trans (b0 U J);refine Nl L z R V a7 a8 a9 (λU=>(d6 U).symm) e0 e2 e3 (λe7 X a5 F=>b4 _ _ _ _ _ _ _ F e6 (aL _) (e4 e7) rfl) λe7=>?_;refine lP (e5 e7) λe8 e9 f1 f2 f3=>ll f3 λa4 f4 f5=>?_;exact mh e8 e9 f1 f2 (λX T a5 F=>b4 _ _ _ _ _ a4 _ F e6 (by refine List.length_append.symm▸?_;exact al _) f4 (by rw[bP,←f5];rfl))
 ·refine ll d1 λc2 f6 f9=>?_;refine f6▸?_;exact f9
end
theorem Np{a}{c}{d}{e:ek->am->Prop}(f:Cx b C A k u l n)(a0:Fv b n l (λg=>g∈oB i) r (lB k))(j:p6 b u (lB k) r G i E t s)(a3:o8 n i=Z m)(p:lc a4 n v=Z c)(a5:lL (lc a4 n) a=Z d)(a6:t.length<=8192)(a7:r<=h)(a8:h∉lB k)(a9:n8 (kX C A) w m c d t S=.ok H B)(b0:∀y,y∉oj m->kZ y L=kZ y w)(b1:Fs b k n l (λ_=>False) x r L o S q)(b2:s 0 o q)(b3:oS o h [] [] q)(b4:∀N O P T,Gr (lB k) r o S q N B O->Fs b k n l (λ_=>False) x r T N B O->oS N h P H O->e (.ok .next) O):dY (aC b.a b.w) u (.compLoop (.ListComp v [⟨i,b5,a,0⟩] b6 c1) 0 (.ref E) (.ref h) l) e q:=by
 refine M5 (g:=⟨aC b.a b.w,u,l,v,i,a,.ref E,.ref h⟩) rfl (Nk b k C A n l x r w m c d s h t H B o S q) (λc2 O c3 c4=>?_) (t.length+1) ⟨0,o,S,L,[],[],H,rfl,bv _,⟨Gr.c o S q,b1,b2,b3⟩,b0,al _,a9,rfl⟩;obtain⟨z,N,c5,T,P,c6,d0,d1,F,J,d2,Q,R,U⟩:=c4;by_cases V:z<t.length;·replace R:=(fJ V)▸R;exact No f a0 j a3 p a5 a7 a8 (ao Q (ao F a6)) J d2 (aI V) R λd3 d4 d5 d6 d7 d8 W e0 e1 e2 e3 p=>⟨_,by rw[d1];exact kJ _ _ (Nat.lt_succ_of_lt V),z+1,d3,d4,d5,d6,d7,d8,rfl,V,e0,e1,ao e2 (cM Q),e3,p.trans U⟩
 ·obtain rfl:z=t.length:=gG F (Nat.not_lt.mp V);replace R:=f8▸R;refine lA (vy (show M.pure [] c5=.ok d0 B from R)) λe4 e5=>?_;rw[←e4,cU]at U;replace J:=U▸e5▸J;refine aK (j.done t.length N B O (λW=>e (.ok .next) W) c3 J.a J.f.t.H rfl λW e6 e7 X=>b4 N W P T (J.g.a e6) (J.f.c X (N.a) e7) (J.ac.c X (N.a))) (λe8 W e9=>?_) λ_ _ g=>g;refine lA e9 λf1 f2=>?_;refine f1▸?_;exact f2
end
end
section
section
variable{d:Gd}{e:List bL}{j:aN}{l t:Wd}{h n o:MS}{f k:am}{b:PT}{a p:Nat}{c:CC}{i:bL}{g r u:Ro}{v:Nat->aS}{m:List aS}{s:aX->Prop}
theorem Fv.q(a:Fv d c i s p m)(b:w<=p):Fv d c i s w m:=⟨a.a,a.d,a.g,a.cx,a.b,λe f=>ao b (a.lo e f),a.e⟩
theorem EM(a:qC (lc q c) c w x=Z y)(z):foldedSetIterable x i z=ba z:=by
 rcases C8 a with⟨b,_,d⟩|⟨e,f,g,h,j,rfl,_⟩|⟨e,f,k,h,b,rfl,_⟩;·clear a;cases q with|zero=>exact nn d|succ q=>have l:=vD d;clear d;induction l<;>rfl
 ·rfl
 ·rfl
theorem EN(q:Cx d b a e j i c)(a0:tq c w x=I)(a3:qC (lc a4 c) c (pv w) y=Z (z,A))(a5:o8 (nL c x) w=Z B)(a6:lc a4 (nL c x) a7=Z C)(a8:lL (lc a4 (nL c x)) a9=Z E)(s:At d e c i g l h f)(t:l_ b (kX b a) g (.lc C B z A E) h≠.b)(b0:∀b1 F G H J b2 L,l_ b (kX b a) g (.lc C B z A E) h=.ok (.c L) H->Gr (lB e) (li f.heap) l h f G H J->At d e c i g G H J->oS G b1 b2 L J->F∉G.as->G.φ F=D->li f.heap<=F->li f.heap<=b1->(∃b3,J.heap.Ns F b3)->F∉lB e->b1∉lB e->compPost (aC d.a d.w) j b4 b5 Q (.ref b1) F (.ok .next) J)(b6:∀N k,PE d e l h f (l_ b (kX b a) g (.lc C B z A E) h) N k->b4 N k):az (aC d.a d.w) j (comprehension (.ListComp a7 [⟨w,y,a9,0⟩] x c1) x i c2 (newList []) ak (bu y i) b5) Q b4 f:=by
 have c3:=M_ a0;have c4:l_ b (kX b a) g (.lc C B z A E)=M.bind (lS (kX b a) g I z A) λc5=>M.bind (n8 (kX b a) g B C E c5) λu=>if u.length<=4096&&c5.length<=8192 then M.pure (.c u)else M.b:=rfl;refine wpAny_comprehension_free (g:=⟨w,y,a9,0⟩) (gs:=[]) rfl (EM a3) (MY (λO c6=>(q.E.f O (EH (c3.name O _ c6))).2:∀O,(O,bO)∈x.names->∃d0,i.cells.lookup O=Z d0)) c3.a (λO c6 d1=>c3.same O.1 _ (by refine d1▸?_;exact c6)) ?_;have d2:∀N k,PE d e l h f (lS (kX b a) g I z A h) N k->b4 N k:=λN k P=>b6 _ _ (P.re λO n d3=>M.uF d3);refine aK (Ew (l:=li f.heap) (j:=lB e) q a3 s (al _) (λR S=>s.K.lt S) (λT=>t (by rw[c4];unfold M.bind;exact T▸rfl):lS (kX b a) g I z A h≠.b)) (λd4 k P=>aK P (λd5 U P=>?_) d2) d2;obtain⟨V,H,G,J,d6,d3,d7,d8,e0,e1,e2,rfl,e3,W,e4,e5⟩:=P;have e6:l_ b (kX b a) g (.lc C B z A E) h=M.bind (n8 (kX b a) g B C E V) (λu=>if u.length<=4096&&V.length<=8192 then M.pure (.c u)else M.b) H:=by refine c4▸?_;unfold M.bind;exact d3▸rfl
 rw[e6]at t;cases e7:n8 (kX b a) g B C E V H with|b=>exact absurd (by unfold M.bind;exact e7▸rfl) t|c O n=>exact absurd e7 (Nf V H O n)|ok L o=>
  have e8:l_ b (kX b a) g (.lc C B z A E) h=(if L.length<=4096&&V.length<=8192 then M.pure (.c L)else M.b) o:=by refine ah e6 ?_;unfold M.bind;exact e7▸rfl
  rw[←e6,e8]at t;by_cases e9:(aE (L.length<=4096)&&aE (V.length<=8192))=I
  ·rw[if_pos e9]at e8;simp only[aJ,decide_eq_true_eq]at e9;refine eW ?_ (bv _);have f1:∀R X,U.heap.get? R=Z X->(U.heap.push {cls:=.type "list",data:=.seq ([]:List ap).toArray}).get? R=Z X:=λR X N=>av _ N;have f2:(U.heap.push {cls:=.type "list",data:=.seq ([]:List ap).toArray}).objs.size=U.heap.objs.size+1:=aV ..;have f3:li U.heap<=li (U.heap.push {cls:=.type "list",data:=.seq ([]:List ap).toArray}):=by unfold li;exact f2▸(aL _)
   have f4:∀{m a},Gr m a G H U G H {U with heap:=U.heap.push {cls:=.type "list",data:=.seq ([]:List ap).toArray}}:=Gr.h (tk:=U.toks) f1 f3;have f5:=(s.d d8 e0).d (e3 _ _) W;have f6:=f5.d f4 (W.h (tk:=U.toks) f1);refine gz λf9 g0=>?_;refine lA (Nc (q:=λ_=>0) (p:=li f.heap) (f:=B) (l:=lB e) c3 q.C q.E f6 a5 (λR S=>f6.K.lt S)) λg1 g2=>ll g2 λr g3 g4=>?_;obtain⟨g5,g6⟩:=g1;refine g0 ?_;refine M4 ?_;have g7:∀R X,(U.heap.push {cls:=.type "list",data:=.seq ([]:List ap).toArray}).get? R=Z X->(cj ((U.heap.push {cls:=.type "list",data:=.seq ([]:List ap).toArray}).push {cls:=.type "dict",data:=.dict #[]}) x.names).get? R=Z X:=λR X N=>jL _ _ _ _ (av _ N);have g8:li (U.heap.push {cls:=.type "list",data:=.seq ([]:List ap).toArray})<=li (cj ((U.heap.push {cls:=.type "list",data:=.seq ([]:List ap).toArray}).push {cls:=.type "dict",data:=.dict #[]}) x.names):=ao (by rw[aV (h:=U.heap.push _)];exact aL _) (Ez x.names _);have h0:∀{m a},Gr m a G H {U with heap:=U.heap.push {cls:=.type "list",data:=.seq ([]:List ap).toArray}} G H {U with heap:=cj ((U.heap.push {cls:=.type "list",data:=.seq ([]:List ap).toArray}).push {cls:=.type "dict",data:=.dict #[]}) x.names}:=Gr.h (tk:=U.toks) g7 g8;have h1:=e4.l 0 G H U G H _ (lB e) (li U.heap) e5 W (f4.a h0) g4.t.H (al _) f5.K.k (.inl rfl);have h2:li f.heap<=U.heap.objs.size:=ao d8.i (e3 [] 0).i;have h3:U.heap.objs.size∉lB e:=λT=>aZ _ (f5.K.lt T);have h4:oS G U.heap.objs.size [] [] {U with heap:=cj ((U.heap.push {cls:=.type "list",data:=.seq ([]:List ap).toArray}).push {cls:=.type "dict",data:=.dict #[]}) x.names}:=⟨⟨0,g7 _ _ (aU _ rfl)⟩,.c,W.r (al _),W.i (al _)⟩;have h5:∀a,a<=li f.heap->Gr (lB e) a l h f G H {U with heap:=cj ((U.heap.push {cls:=.type "list",data:=.seq ([]:List ap).toArray}).push {cls:=.type "dict",data:=.dict #[]}) x.names}:=λa h6=>((((d8.r (n':=a) h6 (λ_ S=>S) (λ_ S=>.inl S)).a (e3 _ _)).a f4).a h0);have h7:Cx d b a e j (pB x i (U.heap.push {cls:=.type "list",data:=.seq ([]:List ap).toArray}).objs.size) (nL c x):=⟨q.iv,q.it,q.d,q.C.nL,g5,q.hd,q.c⟩;have h8:dY (aC d.a d.w) j (.compLoop (.ListComp a7 [⟨w,y,a9,0⟩] x c1) 0 (.ref e1) (.ref U.heap.objs.size) (pB x i (U.heap.push {cls:=.type "list",data:=.seq ([]:List ap).toArray}).objs.size)) (compPost (aC d.a d.w) j b4 b5 Q (.ref U.heap.objs.size) (U.heap.push {cls:=.type "list",data:=.seq ([]:List ap).toArray}).objs.size) {U with heap:=cj ((U.heap.push {cls:=.type "list",data:=.seq ([]:List ap).toArray}).push {cls:=.type "dict",data:=.dict #[]}) x.names}:=by refine Np (x:=λ_=>0) (r:=li f.heap) (L:=r) (w:=g) h7 (g6.q (by rw[f2];exact bo h2)) e4 a5 a6 a8 e9.2 h2 h3 e7 g3 g4 h1 h4 ?_;intro h9 i0 b2 i1 i2 j1 j2;have k0:=(h5 (li f.heap) (al _)).a i2;refine b0 _ _ h9 o i0 b2 L e8 k0 (s.d k0 j1.t.H) j2 j1.b.g j1.b.e (by refine f2▸?_;exact bo h2) h2 j1.b.ns (λT=>?_) h3;have:=f6.K.lt T;exact aZ _ this
   exact codeAny_compStart_list h8 (e4.self 0 G _ _ _ h1 h8)
  ·rw[if_neg e9]at t;exact absurd rfl t
theorem Nq(k:Cx d b a e j i c)(n:tq c q w=I)(o:qC (lc x c) c (pv q) y=Z (z,A))(p:o8 (nL c w) q=Z B)(r:lc x (nL c w) C=Z E)(s:lL (lc x (nL c w)) F=Z G)(t:At d e c i g l h f):kY d e j (bu (.ListComp C [⟨q,y,F,0⟩] w a0) i) (l_ b (kX b a) g (.lc E B z A G)) VI l h f:=λu=>by
 refine EN (b5:=D) k n o p r s t u ?_ (λ_ _ v=>v);intro H J L M N O a3 P Q R a4 a5 a6 a7 S a8 a9 b0;refine lp a8 λb1 T=>?_;refine lQ b1 T (λU V=>?_);refine P▸?_;obtain⟨⟨b2,W⟩,b3,b4,X⟩:=a4;have u:H≠J:=λb5=>by obtain⟨b6,c1,c2,c3,c4,_⟩:=T;exact tm (b5.symm▸c3) c4 W rfl
 have c5:U.get? H=Z {cls:=.type "list",data:=.seq O.toArray b2}:=(V.2 H u).trans W;have c6:Gr (lB e) (li f.heap) L M N L M {N with heap:=U}:=Gr.f (tk:=N.toks) V a7 a9;exact⟨_,M,_,rfl,(Q.a c6).a (Gr.m X S),(R.H.f (tk:=N.toks) V a5 a6).m (s:={N with heap:=U}) c5 b4 X,.c (Wd.c _ _ _) rfl rfl (b3.k (Gr.m (FA:=[]) (S:=M) (s:=N) X S).le)⟩
end
end
section
section
variable{c:Gd}{f:List bL}{g:aN}{i l:Wd}{h m n:MS}{j o:am}{a:PT}{b p:Nat}{k:CC}{d:bL}{e q r:Ro}
theorem Nr(l:Cx c a b f g d k)(m:(s==("__debug__":aX))=ak)(n:(s==("__classdict__":aX))=ak)(o:k.b s=Z t)(p:At c f k d e i h j):kY c f g (bu (.Name s u) d) (l_ a (kX a b) e (.b t)) VI i h j:=by have q:∀r,kZ t e=r->l_ a (kX a b) e (.b t) h=(match r with|some (.a v)=>M.pure v|_=>M.b:M V) h:=λr w=>w▸rfl;cases x:kZ t e with|none=>exact kY.e kY.b (q _ x)|some y=>induction y with|a z=>exact kY.e (m':=M.pure z) (Ke l.C l.E p.H p.R o m n x) (q _ x)|b A=>exact kY.e kY.b (q _ x)
theorem Nt(l:TF c a)(m:∀s t,a.c s=Z t->uB c s t)(n:ux c a b)(o:vK c a b)(p:rP c a b):ux c a (b+1):=by
 intro q r k d g f i h j e u v s w x y z;have A:Cx c a b f g d k:=⟨n,o,p,s,w,x,y⟩;show kY c f g (bu q d) (l_ a (kX a b) e r) VI i h j;clear x y n o p;cases u with|zero=>exact nomatch v|succ u=>
  have B:=vD v;clear v;induction B with
  |g=>exact LS z|h=>exact LU z|a=>exact LW z|d=>exact LX z|b C E F=>exact Nr A C E F z|i C E F G=>exact Kf A.C A.E z.H G C|k C E=>exact Lm A C E z|un C=>exact Ln A C z|@w H _ _ _ C=>induction H with|And=>exact D8 A (t:=.And) C z|Or=>exact D8 A (t:=.Or) C z
  |n C E=>exact Ly A C E z|o C E F=>exact Lp A C E F z|q J C E=>exact LB l A J C E z|p L M N C E F=>exact Mn l A L M N C E F z|l6 _ O C=>exact Me A O C z|s _ P Q C=>exact Mf A P Q C z|u _ P R C=>exact Mg A P R C z|r S T U C=>exact Mj m A T S U C z|l S T V C=>exact Mh A T S V C z|e C=>exact LM (t:=u) A C z|c C=>exact LI A C z|m=>exact LJ z|x C E=>exact Ei A (m:=D) (v:=Z _) (x:=D) (A:=Z _) C trivial E z|y C E F=>exact Ei A (m:=Z _) (v:=Z _) (x:=Z _) (A:=Z _) C E F z|t C=>exact LR A C z|j C E=>exact LP l A C E z|lc W C E F G=>exact Nq A W C E F G z|v X C=>exact LZ A C z X
noncomputable def Nu(c:Gd)(f:List bL)(g:aN)(d:bL)(a:PT)(b:Nat)(e:Ro)(i:Wd)(h:MS)(j:am)(k:aj)(l:ls):Prop:=(isTrue k d (bu k d)=(bu k d>>=λm=>eE k.pos>>=λ_=>bF [m] (gW m)))->(tj (kX a b) e l=M.bind ((kX a b).ev e l) λm=>M.c (pU m))->kY c f g (isTrue k d (bu k d)) (tj (kX a b) e l) (λ_ n o=>n=o) i h j
theorem Nv(l:Cx c a b f g d k)(m:kY c f g (bu s d) ((kX a b).ev e t) VI i h j)(n:isTrue s d (bu s d)=(bu s d>>=λu=>eE s.pos>>=λ_=>bF [u] (gW u)))(o:tj (kX a b) e t=M.bind ((kX a b).ev e t) λu=>M.c (pU u)):kY c f g (isTrue s d (bu s d)) (tj (kX a b) e t) (λ_ v w=>v=w) i h j:=by rw[n,o];exact kY.bind m λu p q r x y z A=>kY.d (kY.a (w9 A z))
theorem Nw(l:TF c a)(m:∀s t,a.c s=Z t->uB c s t)(n:ux c a b)(o:vK c a b)(p:rP c a b):vK c a (b+1):=by
 intro q r k d g f i h j e u v s w x y z;have A:Cx c a b f g d k:=⟨n,o,p,s,w,x,y⟩;have B:=A.ev v z;have C:Nu c f g d a b e i h j q r:=Nv A B;clear B x y n o p;cases u with|zero=>exact nomatch v|succ u=>
  have E:=vD v;clear v;induction E with
  |@un F _ _ _ G=>induction F with|Not=>refine kY.bind (m:=(kX a b).b e _) (g:=λH=>M.pure (!H)) (A.b G z) λH E J L N O P Q=>?_;subst Q;exact kY.pure P rfl|_=>exact C rfl rfl
  |@w F _ _ _ G=>induction F with|And=>exact D9 A (s:=.And) G z|Or=>exact D9 A (s:=.Or) G z
  |n G R=>exact Lz A G R z|o G R S=>refine kY.bind (A.b G z) λT U J L N O P B=>?_;subst B;induction T with|true=>exact A.b R (z.d O P)|false=>exact A.b S (z.d O P)
  |_=>exact C rfl rfl
end
end
section
noncomputable def Nx(a:Gd)(b:List aS)(c:Nat)(d:Wd->MS->am->Prop):Prop:=∀{e:Nat}{f:Wd}{g:MS}{h:am}{i:Wd}{j:MS}{k:am},HS a f g h->Gr b e f g h i j k->c<=e->HS a i j k->(∀l∈b,∃m,h.heap.get? l=Z m/\∃n o,m.data=.dict n o)->d f g h->d i j k
noncomputable def Ny(a:Gd)(b:Wd->MS->am->Prop):Prop:=∀{c:Wd}{d:MS}{e:am}{f:aS}{g:dk}{h:Nat},HS a c d e->bA f e.heap g->f∉c.as->c.φ f=D->(∃i,e.heap.get? f=Z i/\∀j,i.data≠.fields j)->b c d e->b c d {e with heap:=g,toks:=h}
noncomputable def Nz(a:Wd->MS->am->Prop):Prop:=∀{b:Wd}{c:MS}{d:am}{e:aS}{f:jb},d.heap.get? e=Z f->(∀g,f.data≠.fields g)->b.φ e=D->a b c d->a (b.b e f) c d
noncomputable def Tr(a:Gd)(b:List aS)(c:Nat)(d:Wd)(e:MS)(f:am)(g:Wd)(h:MS)(i:am):Prop:=∀j:Wd->MS->am->Prop,Nx a b c j->Ny a j->Nz j->j d e f->j g h i
section
variable{g:Gd}{FA:List aS}{i:Nat}{e m k:Wd}{S n S':MS}{b o l:am}
theorem Tr.c:Tr g FA i e S b e S b:=λ_ _ _ _ a=>a
theorem Tr.d(a:HS g e S b)(c:Gr FA p e S b m n o)(d:i<=p)(f:HS g m n o)(h:∀q∈FA,∃s,b.heap.get? q=Z s/\∃t u,s.data=.dict t u)(j:Tr g FA i m n o k S' l):Tr g FA i e S b k S' l:=λr q v w x=>j r q v w (q a c d f h x)
theorem Tr.f(a:HS g e S b)(c:bA p b.heap q)(d:p∉e.as)(f:e.φ p=D)(h:∃s,b.heap.get? p=Z s/\∀t,s.data≠.fields t)(j:Tr g FA i e S {b with heap:=q,toks:=tk} k S' l):Tr g FA i e S b k S' l:=λm p n o r=>j m p n o (n a c d f h r)
theorem Tr.h(c:b.heap.get? a=Z p)(d:∀q,p.data≠.fields q)(f:e.φ a=D)(h:Tr g FA i (e.b a p) S b k S' l):Tr g FA i e S b k S' l:=λj a m n o=>h j a m n (n c d f o)
theorem Tr.j(a:Tr g FA i e S b m n o)(c:Tr g FA i m n o k S' l):Tr g FA i e S b k S' l:=λd f h j p=>c d f h j (a d f h j p)
theorem Tr.r(a:p<=i)(c:Tr g FA i e S b k S' l):Tr g FA p e S b k S' l:=λd f=>c d λh j m=>f h j (ao a m)
end
theorem Tr.l(a:p6 b e g i ak k m n o)(c:li p.heap<=q)(d:Tr b s q t u p v w x)(f:o y t p):o y v x:=by refine ll (a.c rfl) λh j l=>?_;have r:=λz A=>aF (j y t p f z A) c;exact d (λt _ p=>o y t p) (λB C E F G f=>l y _ _ _ _ _ _ s _ f B C F (λz A=>aF (r z A) E) G) (λB H J L M f=>a.f y _ _ _ _ _ _ f B H J L M) (λH J L f=>a.h y _ _ _ _ f H J L) f
structure Ad(G:Gd)(l:List bL)(env:bL)(n₀:Nat)(W:Wd)(S:MS)(s:am)(W':Wd)(S':MS)(s':am):Prop where
 g:Gr (lB l) n₀ W S s W' S' s'
 t:Tr G (lB (env::l)) (li s.heap) W S s W' S' s'
theorem Ad.c(b)(d)(e):Ad f h i j b d e b d e:=⟨Gr.c _ _ _,.c⟩
theorem Ad.a(a:Ad b d e f h i j k l m)(c:Ad b d e f k l m n o p):Ad b d e f h i j n o p:=⟨a.g.a c.g,a.t.j (c.t.r a.g.i)⟩
noncomputable def FS(a:Gd)(b:List bL)(c:CC)(d:bL)(e:Nat)(f:Ro)(g:Wd)(h:MS)(i:am):Prop:=∃j,Fs a (d::b) c d (λ_=>True) j e f g h i
noncomputable def uG(a:Wd):Flow->Fl->Prop|.next,.a=>True|.cont,.e=>True|.ret b,.d c=>VI a b c|_,_=>False
inductive SQ(G:Gd)(l:List bL)(cc:CC)(env:bL)(n₀:Nat)(W:Wd)(S:MS)(s:am)(r:R (Ro×Fl))(f:Flow)(s':am):Prop|mk(ρ':Ro)(fl:Fl)(S':MS)(W':Wd)(e:r=.ok (ρ',fl) S')(a:Ad G l env n₀ W S s W' S' s')(F:FS G l cc env n₀ ρ' W' S' s')(v:uG W' f fl)
inductive SE(G:Gd)(l:List bL)(cc:CC)(env:bL)(n₀:Nat)(W:Wd)(S:MS)(s:am)(r:R (Ro×Fl))(v:ap)(s':am):Prop|mk(ρ':Ro)(x:XC)(S':MS)(W':Wd)(e:r=.ok (ρ',.c x) S')(a:Ad G l env n₀ W S s W' ⟨S'.σ,S'.mu+1⟩ s')(F:FS G l cc env n₀ ρ' W' S' s')(x:XR G (li s.heap) W' x v s')
noncomputable def ly(a:Gd)(b:List bL)(c:aN)(d:CC)(e:bL)(f:Nat)(g:gF Flow)(h:M (Ro×Fl))(i:Wd)(j:MS)(k:am):Prop:=h j≠.b->az (aC a.a a.w) c g (SQ a b d e f i j k (h j)) (SE a b d e f i j k (h j)) k
structure Bx(G:Gd)(T:PT)(n:Nat)(l:List bL)(A:aN)(env:bL)(cc:CC)(N:aX->Prop)(n₀:Nat):Prop where
 X:Cx G T n (env::l) A env cc
 F:Fv G cc env N n₀ (lB l)b:env.frame=Z env.locals
 lo:n₀<=env.locals
section
variable{h:Gd}{f:List bL}{n:aN}{j p:Wd}{S S':MS}{g q:am}{u:PT}{v i:Nat}{k:CC}{c:bL}{l r:Ro}{w:aX->Prop}{s t:Type}{o:gF s}{m:M t}{Rel:Wd->s->t->Prop}
theorem FS.at(a:FS h f k c i l j S g):At h (c::f) k c l j S g:=a.choose_spec.t
theorem FS.b(a:FS h f k c i l j S g):pA j c g:=a.choose_spec.b
theorem FS.d(a:FS h f k c i l j S g)(b:Gr (lB (c::f)) (li g.heap) j S g p S' q)(d:HS h p S' q):FS h f k c i l p S' q:=⟨a.choose,a.choose_spec.d b d⟩
theorem qH(a:c.frame=Z c.locals):lB (c::f)=c.locals::lB f:=by unfold lB;refine ah ie ?_;exact a▸rfl
theorem Gr.E(a:c.frame=Z c.locals)(b:i<=c.locals)(d:Gr (lB (c::f)) (li g.heap) j S g p S' q)(e:i<=li g.heap):Gr (lB f) i j S g p S' q:=by
 replace d:=(qH a)▸d;exact d.r e (λh k=>aq _ k) λh k=>by
  refine aB (List.mem_cons.mp k) (λk=>?_) (λk=>?_);·exact .inr (k▸b)
  ·exact .inl k
theorem FS.li(a:i<=c.locals)(b:FS h f k c i l j S g):i<=li g.heap:=by obtain⟨⟨m,d⟩,_⟩:=b.b;exact ao a (bB (rO d))
theorem ly.b{o:gF Flow}:ly h f n k c i o (M.b) j S g:=λa=>absurd rfl a
theorem ly.e{o:gF Flow}{m m':M (Ro×Fl)}(a:ly h f n k c i o m' j S g)(b:m S=m' S):ly h f n k c i o m j S g:=λd=>by rw[b]at d⊢;exact a d
theorem SQ.a(a:FS h f k c i l j S g)(b:uG j d e):SQ h f k c i j S g (.ok (l,e) S) d g:=⟨l,e,S,j,rfl,Ad.c _ _ _,a,b⟩
theorem ly.pure(a:FS h f k c i l j S g)(b:uG j x y):ly h f n k c i (ba x) (M.pure (l,y)) j S g:=λ_=>au (SQ.a a b)
theorem ly.d{o:gF Flow}{m:M (Ro×Fl)}(a:ly h f n k c i o m j S g):ly h f n k c i (eE x>>=λ_=>o) m j S g:=λb=>af (bC (a b))
theorem SQ.b(a:Ad h f c i j S g d e x)(b:SQ h f k c i d e x y z q):SQ h f k c i j S g y z q:=by obtain⟨r,l,S',p,m,n,o,y⟩:=b;exact⟨r,l,S',p,m,a.a n,o,y⟩
theorem SE.re(a:SE h f k c i j S g d e q)(b:∀r x S',d=.ok (r,.c x) S'->y=.ok (r,.c x) S'):SE h f k c i j S g y e q:=by refine gz λl m=>?_;obtain⟨r,n,S',p,o,s,t,d⟩:=a;refine m ?_;exact⟨r,n,S',p,b _ _ _ o,s,t,d⟩
theorem SE.b(a:Ad h f c i j S g d e x)(b:SE h f k c i d e x y z q):SE h f k c i j S g y z q:=by obtain⟨r,l,S',p,m,n,y,o⟩:=b;exact⟨r,l,S',p,m,a.a n,y,o.r a.g.i⟩
theorem uH(a:Bx h u v f n c k w i)(b:FS h f k c i l j S g){d:t->M (Ro×Fl)}{e:s->am->Prop}(p:kY h (c::f) n o m Rel j S g)(q:lN l m d S≠.b)(r:∀x y z A B,Gr (lB (c::f)) (li g.heap) j S g z A B->Ad h f c i j S g z A B->FS h f k c i l z A B->Rel z x y->lN l m d S=d y A->e x B):az (aC h.a h.w) n o e (SE h f k c i j S g (lN l m d S)) g:=by
 refine aK (p (λC=>q (by unfold lN;exact C▸rfl):m S≠.b)) (λx B E=>?_) λC B F=>?_;·obtain⟨y,A,z,C,G,H,J⟩:=E;exact r x y z A B G ⟨G.E a.b a.lo (b.li a.lo),.d b.at.H G (al _) H b.at.K.k .c⟩ (b.d G H) J (by unfold lN;rw[C])
 ·obtain⟨L,A,z,C,G,H,N⟩:=F;exact⟨l,L,A,z,by unfold lN;rw[C],⟨G.E a.b a.lo (b.li a.lo),.d b.at.H G (al _) (H.w (A.mu+1)) b.at.K.k .c⟩,FS.d b G (H.w (A.mu+1))|>.choose_spec|>λO=>⟨_,⟨⟨H,O.t.K,O.t.R,O.t.L⟩,O.b,O.a⟩⟩,N⟩
theorem ly.lN(a:Bx h u v f n c k w i)(b:FS h f k c i l j S g){x:t->M (Ro×Fl)}{y:s->gF Flow}(d:kY h (c::f) n o m Rel j S g)(e:∀z A B C E,Gr (lB (c::f)) (Mine.Internal.li g.heap) j S g B C E->FS h f k c i l B C E->Rel B z A->ly h f n k c i (y z) (x A) B C E):ly h f n k c i (o>>=y) (lN l m x) j S g:=λp=>by refine af (uH a b d p λz A B C E q r F G H=>?_);refine H▸?_;exact aK (e z A B C E q F G (λJ=>p (by refine H.symm▸?_;exact J):x A C≠.b)) (λ_ _ J=>J.b r) λ_ _ J=>J.b r
end
end
section
section
variable{g:Gd}{b:List bL}{t:aN}{c k:Wd}{S q:MS}{s w:am}{d:PT}{n e:Nat}{i:CC}{f:bL}{a l:Ro}{u:aX->Prop}{o:nq}{v:Nat->Prop}{r:Nat->aS}
theorem AB:∀(h j:List lT)(a:Ro),lH o (h++j) a=M.bind (lH o h a) λm=>match m.2 with|.a=>lH o j m.1|p=>M.pure (m.1,p):=by
 intro b
 induction b with|nil=>
  intro j a;exact rfl|cons c h d=>
  intro j a;show M.bind (o.ex a c) _=M.bind (M.bind (o.ex a c) _) _;funext S;unfold M.bind;cases e:o.ex a c S with
  |ok m q=>obtain⟨f,g⟩:=m;induction g with|a=>exact congrFun (d j f) q|e=>rfl|d i=>rfl|c k=>rfl
  |c k q=>rfl|b=>rfl
theorem Fs.j(d:Fs g b i f v r e a c S s)(h:s.heap.get? m=Z p)(j:p.data=.seq x y)(k:m∉c.as)(l:c.φ m=D)(o:∀z A,v z->kZ z a=Z (.b A)->r z≠m):Fs g b i f v r e a (c.b m p) S s:=by have q:∀{t u w B},s.heap.get? t=Z u->u.data=.dict w B->c.φ t=D->(c.b m p).φ t=D:=λC E F=>(sD λG=>tm (G▸C) E h j).trans F;exact d.to ⟨λ_ n=>n,λC=>C,λF=>d.b.ns.elim λH n=>nZ n λp w B J L _=>q J L F,λ_ _ C=>C,λ_ _ _ C=>C,λ_ _ M F=>ll M λ_ J L=>(sD λG=>w0 (G▸J) L h j).trans F⟩ (Gr.m (FA:=[]) (n:=0) (S:=S) (s:=s) (o:=p) l (bv _)).le (d.t.H.m h k l) (d.t.K.to (λ_ p _ _ _ C _=>⟨p,C,rfl⟩) (λ_ _ _ _=>q) λ_ _ _ _ _ _ C=>C) λz A _ N G O J L=>⟨O,J,(sD (o z A N G)).trans L⟩
theorem FS.m(d:Fv g i f u e (lB b))(h:FS g b i f e a c S s)(j:kZ p a=Z (.b x)):∃k,Ad g b f e c S s k S s/\FS g b i f e (k9 p (.a (.c x)) a) k S s:=by refine gz λl m=>?_;refine lp h λr h=>?_;refine nc (h.a.1 p x trivial j) λn o q t v=>ll o λw y z=>lp y λA B=>?_;refine m ?_;have C:Gr (lB b) e c S s (c.b (r p) {cls:=.type "list",data:=.seq w.toArray A}) S s:=Gr.m t v;have E:Fs g (f::b) i f (λF=>F≠p) r e a c S s:=⟨h.t,h.b,λF G y H=>h.a.1 F G trivial H,λF J G L M N=>h.a.2 F J G L trivial trivial⟩;have O:=E.j B rfl q t λF G y H P=>y (h.a.2 F p G x trivial trivial H j P);refine lQ _ ⟨C,.h B (λx P=>wY rfl P) t .c⟩ ⟨r,⟨O.t.H,O.t.K,λQ F R T H=>?_,O.t.L⟩,O.b,λF G y H=>uC H λM H=>O.a.1 F G M H,λF J G L M N U V=>uC U λ_ U=>uC V λ_ V=>h.a.2 F J G L trivial trivial U V⟩;exact q_ H (λM U=>lQ _ (LV.c U▸.c (Wd.c _ _ _) rfl rfl (z.k C.le)) (n Q (M▸T))) λM H=>O.t.R Q F R T H
noncomputable def xF:lT->Bool|.m _=>I|_=>ak
theorem ra(i)(h):∀j∈nA i h,xF j=I:=λj a=>by refine ll (List.mem_filterMap.mp a) λb _ c=>?_;refine ll (Option.map_eq_some_iff.mp c) λd _ e=>?_;refine e▸?_;rfl
theorem NA(a:xF h=I):∃j,h=.m j:=by cases h with|m j=>exact⟨j,rfl⟩|_=>exact ft a
theorem NB(h:Fv g i f u e (lB b))(j:FS g b i f e a c S s):∃m p,lV d o a (.m x) S=.ok (m,.a) S/\Ad g b f e c S s p S s/\FS g b i f e m p S s:=by have k:∀l,kZ x a=l->lV d o a (.m x) S=(match l with|some (.b y)=>M.pure (k9 x (.a (.c y)) a,.a)|_=>M.pure (a,.a):M (Ro×Fl)) S:=λl n=>n▸rfl;cases q:kZ x a with|none=>exact mh a c (k _ q) (Ad.c _ _ _) j|some r=>induction r with|a t=>exact mh a c (k _ q) (Ad.c _ _ _) j|b y=>exact ll (j.m h q) λp v w=>mh _ p (k _ q) v w
theorem NC(h:Fv g i f u e (lB b))(j:∀m∈p,xF m=I):∀{a:Ro}{c:Wd},FS g b i f e a c S s->∃l k,lH (kX d (n+1)) p a S=.ok (l,.a) S/\Ad g b f e c S s k S s/\FS g b i f e l k S s:=by induction p with|nil=>exactλq=>mh _ _ rfl (Ad.c _ _ _) q|cons m p r=>intro a c q;refine lp (NA (j m (aw ..))) λt v=>?_;refine v▸?_;refine lP (NB (d:=d) (o:=kX d n) (x:=t) h q) λw x y z A=>?_;refine lP (r (λB C=>j B (aq _ C)) A) λE F G H J=>?_;exact mh E F ((M.lO y).trans G) (z.a H) J
theorem ly.h(h:Fv g i f u e (lB b))(j:∀m∈x,xF m=I)(o:FS g b i f e a c S s)(r:∀l k,FS g b i f e l k S s->ly g b t i f e y (lV d (kX d n) l z) k S s):ly g b t i f e y (lH (kX d (n+1)) (x++[z]) a) c S s:=by
 refine lP (NC (d:=d) (n:=n) h j o) λl k v w A=>?_;have B:lH (kX d (n+1)) (x++[z]) a S=lV d (kX d n) l z S:=by refine(congrFun (AB _ _ _) S).trans ((M.lO v).trans ?_);show M.bind (lV d (kX d n) l z) _ S=_;unfold M.bind;cases C:lV d (kX d n) l z S with|ok p q=>obtain⟨E,F⟩:=p;induction F<;>rfl|c v q=>rfl|b=>rfl
 intro G;rw[B]at G⊢;exact aK (r l k A G) (λ_ _ C=>C.b w) λ_ _ C=>C.b w
theorem ly.mF(h:ly g b t i f e j (lV d (kX d n) a m) c S s):ly g b t i f e j (lH (kX d (n+1)) [m] a) c S s:=ly.e h (by show M.bind (lV d (kX d n) a m) _ S=_;unfold M.bind;cases k:lV d (kX d n) a m S with|ok l q=>obtain⟨o,p⟩:=l;induction p<;>rfl|c r q=>rfl|b=>rfl)
end
noncomputable def p7(a:Gd)(b:PT)(c:Nat):Prop:=∀{d:fq}{e:List lT}{f:CC}{g:bL}{h:aN}{i:List bL}{j:Wd}{k:MS}{l:am}{m:Ro}{n o:Nat},vG n f d=Z e->nh a f->Ev (g::i) h g f->Fv a f g (λp=>nU (f.sc.lookup p)=I) o (lB i)->g.frame=Z g.locals->o<=g.locals->h.depth+c<=990->h.units+8*c<=9000->FS a i f g o m j k l->ly a i h f g o (eO d g) (lH (kX b c) e m) j k l
section
variable{i:Gd}{j:List bL}{k:aN}{f m:Wd}{b n:MS}{g o:am}{h:PT}{e l:Nat}{a:CC}{c:bL}{d p:Ro}{q:aX->Prop}{r:nq}{s:Nat->Prop}{t:Nat->aS}
theorem ND{b}(c:mK (u+1) a (b::v)=Z w):∃x y,vG u a b=Z x/\mK u a v=Z y/\w=x++y:=by refine lP (ru c) λx y d e f=>?_;exact mh x y d e f.symm
theorem tx(m:p7 i h e)(n:nh i a)(o:Ev (c::j) k c a)(p:Fv i a c (λu=>nU (a.sc.lookup u)=I) l (lB j))(q:c.frame=Z c.locals)(r:l<=c.locals)(s:k.depth+e<=990)(t:k.units+8*e<=9000):∀{v:List fq}{w:List lT}{x:Nat}{d:Ro}{f:Wd}{b:MS}{g:am},mK x a v=Z w->FS i j a c l d f b g->ly i j k a c l (ig v c) (lH (kX h e) w d) f b g:=by
 intro v;induction v with
 |nil=>intro w y;cases y with|zero=>intro d f b g z A;cases z|succ x=>intro d f b g z A;refine(aa z)▸?_;exactλ_=>dw (SQ.a A trivial)
 |cons a0 a3 B=>
  intro w C;cases C with|zero=>
   intro d f b g z A;cases z|succ x=>
   intro d f b g z A;refine lP (ND z) λE F G H J=>?_;refine J▸?_;intro L;rw[AB]at L⊢;refine cE (aK (m G n o p q r s t A (λN=>L (by unfold M.bind;exact N.symm▸rfl):lH (kX h e) E d b≠.b)) (λO a4 N=>?_) λP a4 N=>?_)
   ·obtain⟨Q,R,S,T,a5,U,V,W⟩:=N;have a6:M.bind (lH (kX h e) E d) (λX=>match X.2 with|.a=>lH (kX h e) F X.1|A=>M.pure (X.1,A)) b=(match R with|.a=>lH (kX h e) F Q|A=>M.pure (Q,A)) S:=by unfold M.bind;exact a5▸rfl
    rw[a6]at L⊢;induction O<;>induction R<;>first|exact W.elim|skip
    ·exact aK (B H V L) (λ_ _ N=>N.b U) λ_ _ N=>N.b U
    ·exact⟨Q,_,S,T,rfl,U,V,W⟩
    ·exact⟨Q,_,S,T,rfl,U,V,W⟩
   ·exact N.re λ_ _ _ P=>M.lO P
end
end
section
noncomputable def NL(a:CC):aX->Prop:=λb=>nU (a.sc.lookup b)=I
section
variable{c:Gd}{f:List bL}{m:aN}{k o:Wd}{i p:MS}{l q:am}{d:PT}{j g:Nat}{b:CC}{a:bL}{h r:Ro}{n:aX->Prop}{s:nq}{t u:Type}
theorem FS.e(d:FS c f b a g h k i l):∀v∈lB (a::f),v∉k.as:=d.at.e
theorem NE(e:Bx c d j f m a b n g)(o:vE v=I)(p:lc w b v=Z x)(q:FS c f b a g h k i l):ly c f m b a g (eO (.Expr v y) a) (lV d (kX d j) h (.g x)) k i l:=by
 intro r;refine fY (uH e q (e.X.ev p q.at) r λv s t u z A B C E F=>?_) ?_ ?_;·refine SQ.b B ?_;refine(F▸?_:SQ c f b a g t u z (lN h ((kX d j).ev h x) (λ_=>M.pure (h,.a)) i) .next z);exact SQ.a C trivial
 ·have:=e.X.E.a;unfold eu;refine this▸?_;rfl
 ·cases w with|zero=>exact nn p|succ w=>cases v<;>first|rfl|(exact ft o)|exact nn p
theorem NF(e:Bx c d j f m a b n g)(o:lc v b w=Z x)(p:FS c f b a g h k i l):ly c f m b a g (eO (.Return (Z w) y) a) (lV d (kX d j) h (.d x)) k i l:=by intro q;refine jk (uH e p (e.X.ev o p.at) q λw r s t u z A B C E=>?_);refine SQ.b A ?_;show SQ c f b a g s t u (lN h ((kX d j).ev h x) (λw=>M.pure (h,.d w)) i) _ u;refine E▸?_;exact SQ.a B C
theorem NG(e:FS c f b a g h k i l):ly c f m b a g (eO (.Return D v) a) (lV d (kX d j) h .o0) k i l:=λ_=>wpAny_Return_none (SQ.a e VI.g)
theorem NH(e:FS c f b a g h k i l):ly c f m b a g (eO (.Continue v) a) (lV d (kX d j) h .e) k i l:=by rw[arm_exec_Continue];exact ly.d (ly.pure e trivial)
theorem NI(e:Bx c d j f m a b (NL b) g)(n:p7 c d j)(o:lc v b w=Z x)(p:mK y b z=Z A)(q:mK y b B=Z C)(r:FS c f b a g h k i l):ly c f m b a g (eO (.If w z B E) a) (lV d (kX d j) h (.k x A C)) k i l:=by
 refine ly.d (ly.lN e r (e.X.b o r.at) λs t u F G H J L=>?_);induction L;have M:m.depth+j<=990:=by have:=e.X.hd;exact vg this
 have N:m.units+8*j<=9000:=by have:=e.X.c;exact s5 this
 induction s;·exact tx n e.X.C e.X.E e.F e.b e.lo M N q J
 ·exact tx n e.X.C e.X.E e.F e.b e.lo M N p J
theorem NJ(c:vE e=I)(d:lc v b e=Z w):fT e (Z x) y a=ba ak:=by cases v with|zero=>exact nn d|succ v=>cases e<;>first|rfl|(exact ft c)|exact nn d
theorem tz(b:fT e (Z v) w.line a=ba ak)(c:eZ [v] e a=ba D)(d:iR [v] a=[(ak,iw v a)]):eO (.Assign [v] e w) a=(eE w>>=λ_=>bu e a>>=λx=>iw v a x>>=λ_=>ba .next):=by rw[arm_exec_Assign];have f:swapsWithSole [v] e w.line a=ba ak:=b;refine f▸?_;refine c▸?_;refine d▸?_;rfl
theorem NK(e:TF c d)(o:Bx c d j f m a b n g)(p:lc v b w=Z x)(q:b.id y=Z z)(r:lc v b A=Z B)(s:FS c f b a g h k i l):ly c f m b a g (eO (.Assign [.Attribute w y C] A E) a) (lV d (kX d j) h (.i x z B)) k i l:=by rw[tz (by cases A<;>rfl) (by cases A<;>rfl) rfl];refine ly.d (ly.lN o s (o.X.ev r s.at) λA t u F G H J L=>?_);rw[arm_assign_Attribute,du];refine ly.lN o J (kY.a (o.X.ev p J.at)) λM N O P Q R S T=>?_;rw[du];refine ly.d ?_;rw[du];rw[←(o.X.C.d _ _ q)];refine ly.lN o S (kY.a (zW e.g T (L.k R.le) S.at.H S.e)) λ_ _ U V W a0 X _=>?_;exactλ_=>af (eX (au (SQ.a X trivial)))
theorem NM(e:Bx c d j f m a b n g)(o:lc v b w=Z x)(p:lc v b y=Z z)(q:lc v b A=Z B)(r:FS c f b a g h k i l):ly c f m b a g (eO (.Assign [.Subscript w y C] A E) a) (lV d (kX d j) h (.n x z B)) k i l:=by rw[tz (by cases A<;>rfl) (by cases A<;>rfl) rfl];refine ly.d (ly.lN e r (e.X.ev q r.at) λA s t u F G H J=>?_);rw[arm_assign_Subscript,du];refine ly.lN e H (kY.a (e.X.ev o H.at)) λL M N O P Q R S=>?_;rw[du];refine ly.lN e R (kY.a (e.X.ev p R.at)) λT a0 a3 a4 a5 U V W=>?_;rw[du];refine ly.d ?_;rw[du];refine ly.lN e V (kY.a (Lh V.e ((S.k U.le)) W ((J.k Q.le).k U.le) V.at.H)) λ_ _ a6 a7 a8 a9 X _=>?_;exactλ_=>af (eX (au (SQ.a X trivial)))
theorem NN(e:TF c d)(o:Bx c d j f m a b n g)(p:lc v b w=Z x)(q:b.id y=Z z)(r:lc v b A=Z B)(s:FS c f b a g h k i l):ly c f m b a g (eO (.AugAssign (.Attribute w y C) E A F) a) (lV d (kX d j) h (.q x z E B)) k i l:=by rw[arm_exec_AugAssign_2];refine ly.d (ly.lN o s (o.X.ev p s.at) λt u G a0 a3 a4 H J=>?_);refine(o.X.C.d _ _ q)▸?_;refine ly.lN o H (kY.a (kY.d (kY.bind (CT e.e J H.at.H) λa5 L M N O P Q R=>kY.bind (kY.a (o.X.ev r (H.at.d P Q))) λa6 a7 a8 a9 b0 S T U=>kY.d (kY.i (CN (R.k S.le) U T))))) λb1 L M N O P V W=>?_;refine ly.d (ly.lN o V (kY.a (zW e.g (J.k P.le) W V.at.H V.e)) λ_ _ b2 b3 b4 b5 X _=>?_);exactλ_=>af (eX (au (SQ.a X trivial)))
end
end
section
section
variable{d:Gd}{e:List bL}{m:aN}{f p:Wd}{g q:MS}{n i:am}{j:PT}{l k:Nat}{b:CC}{c:bL}{h r:Ro}{o:aX->Prop}{s:nq}{t u:Type}
noncomputable def ZT(d:Gd)(e:List bL)(f:Wd)(g:MS)(a i:am):Prop:=HS d f g i/\mU e f i/\Tr d (lB e) (li a.heap) f g a f g i
theorem o_.a:o_ f c o (ZT d v f g w):=by
 refine⟨λi a b⟨e,h,j⟩k m=>?_,λi n p a b⟨e,h,j⟩r s=>?_⟩;·have t:=e.h (tk:=b) k;have u:∀{x l},Gr x l f g i f g {i with heap:=a,toks:=b}:=Gr.h k m;exact oz t (h.d (S:=g) (S':=g) (l':=v) u λy z=>h.lt z) (j.j (.d e u (al _) t h.k .c))
 ·exact oz (e.f s.a s.g s.e) (h.f s.a s.c) (j.j (.f e s.a s.g s.e s.d .c))
theorem uI(a:b.a v=Z w):NL b v/\b.b v=Z w:=by exact(CU a:nU (b.sc.lookup v)=I/\_)
theorem AC(a:qZ b v=Z w):(∀x∈oB v,NL b x)/\o8 b v=Z w:=by exact(CU a:(oB v).all (λx=>nU (b.sc.lookup x))=I/\_).imp_left λc x d=>List.all_eq_true.mp c x d
theorem EO(a:Bx d j l e m c b (NL b) k)(o:fT v (Z (.Name w x)) y.line c=ba ak)(p:b.a w=Z z)(q:lc A b v=Z B)(r:FS d e b c k h f g n):ly d e m b c k (eO (.Assign [.Name w x] v y) c) (lV j (kX j l) h (.f z B)) f g n:=by refine gz λs t=>?_;refine lA (uI p) λu p=>?_;refine t ?_;rw[tz o rfl rfl];refine ly.d (ly.lN a r (a.X.ev q r.at) λv C E F G H J o=>?_);obtain⟨L,M⟩:=J;exactλ_=>af (xz o_.a (⟨M.t.H,M.t.K,.c⟩:ZT d (c::e) E F G G) a.F M p u o λi N O P=>au ⟨_,_,F,E,rfl,⟨O,N.2.2⟩,⟨L,P⟩,trivial⟩)
theorem NO(a:Ev (c::e) m c b)(i:Fv d b c o k (lB e))(j:o v)(l:b.b v=Z w)(p:kZ w h=Z (.a x))(q:At d (c::e) b c h f g n):kY d (c::e) m (loadName c v) (M.pure x) VI f g n:=λ_=>by refine ll (q.R v w x l p) λr s t=>?_;exact vJ a.a t (.inr (i.c j)) (PO.a q.H s)
theorem NP(a:Bx d j l e m c b (NL b) k)(i:b.a v=Z w)(o:lc x b y=Z z)(p:FS d e b c k h f g n):ly d e m b c k (eO (.AugAssign (.Name v A) B y C) c) (lV j (kX j l) h (.p w B z)) f g n:=by refine gz λq r=>?_;refine lA (uI i) λs i=>?_;refine r ?_;cases t:kZ w h with|none=>exact ly.e ly.b (by unfold lV;dsimp only;exact t▸rfl)|some u=>induction u with|b E=>exact ly.e ly.b (by unfold lV;dsimp only;rw[t])|a F=>refine ly.e (m':=lN h (M.pure F) λF=>lN h ((kX j l).ev h z) λG=>lN h (M.c (ua B F G)) λy=>M.pure (k9 w (.a y) h,.a)) ?_ (by unfold lV;dsimp only;rw[t];rfl);refine ly.d (ly.lN a p (NO a.X.E a.F s i t p.at) λF H J a0 a3 a4 L N=>?_);refine ly.lN a L (kY.a (a.X.ev o L.at)) λG a5 a6 a7 a8 O P Q=>ly.d ?_;refine ly.lN a P (kY.i (CN (N.k O.le) Q P.at.H)) λy H R S a9 b0 T U=>ly.d ?_;obtain⟨V,W⟩:=T;exactλ_=>af (j9 (vR a.F.a (a.F.g v s) a.F.b (a.F.cx v) W.b λb1 b2 X=>au ⟨_,_,S,R,rfl,⟨Gr.f X.a (a.F.lo v s) (a.F.e v s),.f W.t.H X.a X.g X.e X.d .c⟩,⟨V,W.f a.F i U X⟩,trivial⟩))
theorem EP(a:Bx d j l e m c b (NL b) k)(o:∃v w x,y=.Tuple v w x)(p:eZ [y] z c=ba D)(q:fT z (Z y) A.line c=ba ak)(r:qZ b y=Z (.inr B))(s:lc C b z=Z E)(t:FS d e b c k h f g n):ly d e m b c k (eO (.Assign [y] z A) c) (lV j (kX j l) h (.c B E)) f g n:=by refine lA (AC r) λu r=>?_;refine yQ o λv w x F=>?_;subst F;rw[tz q p rfl];refine ly.d (ly.lN a t (a.X.ev s t.at) λz G H J L N O P=>?_);obtain⟨Q,R⟩:=O;cases S:mJ (.inr B) G h with|none=>exact ly.e ly.b rfl|some T=>refine ly.e (m':=M.pure (T,.a)) ?_ rfl;exactλ_=>af (Au o_.a (⟨R.t.H,R.t.K,.c⟩:ZT d (c::e) H J L L) a.X.E.d a.F R r u P S λi U V W=>au ⟨_,_,J,H,rfl,⟨V,U.2.2⟩,⟨Q,W⟩,trivial⟩)
end
end
section
section
variable{d:Gd}{i:List bL}{m:aN}{f s:Wd}{l t:MS}{c u:am}{n:PT}{o j:Nat}{b:CC}{a:bL}{e v:Ro}{p:aX->Prop}{r:List aS}{q:Nat->Prop}{h:Nat->aS}{w x:Type}
theorem Fs.k(g:Fv d b a p j r)(k:y z=A)(m:∀B,B≠z->y B=h B)(n:Fs d i b a q h j e f l c)(o:b.b C=Z z)(s:c.heap.PlainList A E.toArray)(t:lx f E F)(u:A∉f.as)(v:f.φ A=D)(w:j<=A)(x:∀B G,kZ B e=Z (.b G)->h B≠A)(H:qF f a C (.ref A) c.heap J):Fs d i b a q y j (k9 z (.b F) e) f l {c with heap:=J,toks:=a0}:=by
 have L:=H.b c rfl n.b a0;subst k;refine⟨⟨n.t.H.f H.a H.g H.e,n.t.K.f H.a H.c,λM B a3 N O=>?_,L.cl⟩,L,λB G a4 O=>?_,λB P G Q R a5 S T=>?_⟩;·refine Ep O λR O=>?_;exact ll (n.t.R M B a3 N O) λU a6 a7=>lQ U a6 (H.i M U (xv o N R) a7)
 ·refine q_ O (λR S=>?_) λR O=>?_;·refine R▸?_;exact qp (λM N=>(g.nm o N rfl).symm▸H.f) ⟨E,H.h s,LV.d S▸t⟩ u v w
  ·refine nc (n.a.1 B G a4 O) λa8 a9 b0 b1 b2=>ll a9 λb3 b4 b5=>?_;refine(m B R)▸?_;exact qp (λM N=>H.i M _ (xv o N R) (a8 M N)) ⟨b3,H.h b4,b5⟩ b0 b1 b2
 ·refine q_ S (λV _=>q_ T (λW _ _=>V.trans W.symm) λW T X=>?_) λV S=>q_ T (λW _ X=>?_) λW T X=>?_;·exact absurd ((m P W).symm.trans (X.symm.trans (V▸rfl))) (x P Q T)
  ·exact absurd ((m B V).symm.trans (X.trans (W▸rfl))) (x B G S)
  ·exact n.a.2 B P G Q R a5 S T ((m B V).symm.trans (X.trans (m P W)))
theorem Fs.g{y}{a0 z:List ap}(g:Fs d i b a (λ_=>True) h j e f l c)(k:kZ y e=Z (.b A))(m:bA (h y) c.heap B)(n:B.PlainList (h y) z.toArray)(o:lx f z C):Fs d i b a (λ_=>True) h j (k9 y (.b C) e) f l {c with heap:=B,toks:=E}:=by
 refine nc (g.a.1 y A trivial k) λp q r s t=>ll q λu v a3=>?_;have w:Fs d i b a (λx=>x≠y) h j e f l c:=⟨g.t,g.b,λx C F G=>g.a.1 x C trivial G,λx H C J L M=>g.a.2 x H C J trivial trivial⟩;have N:=w.i (F:=E) v m r s λx C F G O=>F (g.a.2 x y C A trivial trivial G k O);refine⟨⟨N.t.H,N.t.K,λP x Q a4 G=>Ep G λ_ G=>N.t.R P x Q a4 G,N.t.L⟩,N.b,λx J F G=>?_,λx H J u L M R a5=>?_⟩
 ·refine q_ G (λL R=>?_) λL G=>N.a.1 x J L G;refine L▸?_;refine qp (λa6 a7=>?_) ⟨z,n,LV.d R▸o⟩ r s t;refine aB (p a6 a7) (λq=>mj q λS T a8=>ll a8 λa9 U V=>?_) (λb0=>lA b0 λS b1=>mQ b1 λb2 T U V=>?_);·exact .inl ⟨S,T,a9,U.sameBut m (xx v (xy U)),V⟩
  ·exact .inr ⟨S,b2,T,U,V.sameBut m λO=>lp v λ_ v=>ll V λ_ b3 b4=>w0 (O▸b3) b4 v rfl⟩
 ·have W:∀{x J},kZ x (k9 y (.b C) e)=Z (.b J)->∃b5,kZ x e=Z (.b b5):=λX=>q_ X (λb6 _=>⟨A,b6▸k⟩) λ_ X=>⟨_,X⟩;exact lp (W R) λ_ S=>lp (W a5) λ_ T=>g.a.2 x H _ _ trivial trivial S T
theorem lx.snoc{y}{z}(a:lx f y z)(b:VI f A B):lx f (y++[A]) (z++[B]):=a.f (.b b .c)
theorem NQ(g:Bx d n o i m a b (NL b) j)(k:b.a y=Z z)(p:FS d i b a j e f l c):ly d i m b a j (eO (.Assign [.Name y A] (.List [] B) C) a) (lV n (kX n o) e (.r z)) f l c:=by
 refine gz λq r=>?_;refine lA (uI k) λs k=>?_;refine r ?_;rw[tz rfl rfl rfl];refine ly.d λ_=>?_;refine lp p λh t=>?_;refine af (af (bC (af (au ?_))));refine eW (items:=[]) ?_ (by decide);have u:∀v w,c.heap.get? v=Z w->(c.heap.push {cls:=.type "list",data:=.seq (([]:List ap).toArray)}).get? v=Z w:=λv w x=>av _ x;have E:li c.heap<=li (c.heap.push {cls:=.type "list",data:=.seq (([]:List ap).toArray)}):=by unfold li;rw[aV];exact aL _
 have F:=t.d (Gr.h (S:=l) (tk:=c.toks) u E) (t.t.H.h (tk:=c.toks) u);refine af (wpAny_assign_Name (vR g.F.a (g.F.g y s) g.F.b (g.F.cx y) F.b λG H J=>au ⟨k9 z (.b []) e,.a,l,f,rfl,⟨(Gr.h (tk:=c.toks) u E).a (Gr.f J.a (g.F.lo y s) (g.F.e y s)),.d t.t.H (Gr.h (tk:=c.toks) u E) (al _) (t.t.H.h (tk:=c.toks) u) t.t.K.k (.f F.t.H J.a J.g J.e J.d .c)⟩,⟨_,F.k (y:=λL=>if L=z then c.heap.objs.size else h L) g.F (if_pos rfl) (λ_ M=>if_neg M) k ⟨_,aU _ rfl⟩ .c ?_ ?_ (FS.li g.lo p) ?_ J⟩,trivial⟩));·exact t.t.H.r (pW _)
 ·exact t.t.H.i (pW _)
 ·intro L N O P;refine mj (t.a.1 L N trivial O) λ_ Q _=>ll Q λR S _=>lp S λT U=>?_;rw[P]at U;exact aZ _ (bK U)
theorem NR(e:Ev (a::i) m a b)(g:Fv d b a p j (lB i))(h:p k)(l:(k==("__debug__":aX))=ak)(n:n_ f a c.heap k y)(o:Q y c):az (aC d.a d.w) m (bu (.Name k z) a) Q A c:=by exact iP (vJ e.a n (.inr (g.c h)) o) l
theorem EQ(g:Bx d n o i m a b (NL b) j){k}{y z}{p}{A}{B}{C:V->M (Ro×Fl)}(r:Slot "list" z p)(s:typeOf (.builtin p)=ba (.type "method_descriptor"))(t:(E.endLine==F.line)=I)(a0:(y==("__debug__":aX))=ak)(u:b.a y=Z A)(v:lc k b G=Z H)(a3:FS d i b a j e f l c)(a4:kZ A e=Z (.b B))(a5:∀h J L N O P,Fs d (a::i) b a (λ_=>True) h j e N O P->VI N J L->C L O≠.b->az (aC d.a d.w) m (bI (.builtin p) [.ref (h A),J]) (λ_ a6=>SQ d i b a j N O P (C L O) .next a6) (SE d i b a j N O P (C L O)) P):ly d i m b a j (eO (.Expr (.Call (.Attribute (.Name y a7) z E) [G] [] F) a8) a) (lN e ((kX n o).ev e H) C) f l c:=by
 refine lA (uI u) λa9 u=>?_;intro w;have b0:eu a=ak:=by unfold eu;refine g.X.E.a▸?_;rfl
 refine fY ?_ b0 rfl;have x:lL (lc k b) [G]=Z [H]:=congrArg (mO iE · (Z [])) v;rw[Eo rfl t (by show(1:Nat)<30;decide) x];refine gz λb1 b2=>?_;refine lp a3 λh Q=>?_;refine nc (Q.a.1 A B trivial a4) λb3 b4 b5 b6 c1=>ll b4 λc2 c3 c4=>lp c3 λR S=>?_;refine b2 ?_;refine af (NR g.X.E g.F a9 a0 (b3 y u) (af (bC (af (aT ?_)))));refine cH ⟨_,S,rfl⟩ dE r s (λG T=>by refine(fe T)▸?_;exact lQ _ S rfl) ?_;have c5:=Am (d:=a) (v:=F) x;rw[(by rw[rQ v];rfl:bS F (bh [G] a)=[(ak,bu G a)])]at c5⊢;refine dL (P:=d.K.In) rfl (uz p) (dm ?_);have c6:di [(ak,bu G a)]=(bu G a>>=λJ=>(ba [J]>>=λU=>bF U (ba [])>>=λB=>ba (U++B))):=rfl;refine c6▸?_;refine af (uH g ⟨h,Q⟩ (g.X.ev v Q.t) w λJ L N O P d0 W X d1 T=>?_);refine af (au (af (aT (au (au ⟨?_,?_⟩)))));·exact X.at.H.K
 ·rw[T]at w⊢;exact aK (a5 h J L N O P (Q.d d0 X.at.H) d1 w) (λ_ _ R=>SQ.b W R) λ_ _ R=>SE.b W R
theorem NS(g:Bx d n o i m a b (NL b) j){k}{y:aX}(p:(z.endLine==A.line)=I)(q:(y==("__debug__":aX))=ak)(r:b.a y=Z B)(s:lc k b C=Z E)(t:FS d i b a j e f l c):ly d i m b a j (eO (.Expr (.Call (.Attribute (.Name y a0) "append" z) [C] [] A) a3) a) (lV n (kX n o) e (.j B E)) f l c:=by
 cases u:kZ B e with|none=>exact ly.e ly.b (by unfold lV;dsimp only;exact u▸rfl)|some v=>induction v with|a w=>exact ly.e ly.b (by unfold lV;dsimp only;exact u.symm▸rfl)|b x=>
  refine ly.e (m':=lN e ((kX n o).ev e E) λF=>if x.length<=4096 then M.pure (k9 B (.b (x++[F])) e,.a)else M.b) ?_ (by unfold lV;dsimp only;exact u▸rfl);refine EQ g gY gZ p q r s t u λh F w H J L G N O=>?_;by_cases P:x.length<=4096
  ·rw[if_pos P];refine nc (G.a.1 B x trivial u) λa4 Q R S T=>ll Q λU V W=>?_;refine er V (λa5 a6 X=>?_) (by refine aR▸?_;refine W.a▸?_;refine m5▸?_;exact lk P rfl);have a7:h B∉lB i:=λa8=>by refine mQ (G.t.K.at (a:=h B) (by refine(qH g.b).symm▸?_;exact aq _ a8)) λa9 b0 Q _=>mY Q λb1 b2 b3=>?_;refine lp V λb4 V=>?_;exact tm b0 b3 V rfl
   exact⟨_,.a,J,H,rfl,⟨Gr.f (tk:=L.toks) X T a7,.f (tk:=L.toks) G.t.H X R S (xE V) .c⟩,⟨h,G.g (a0:=U) (E:=L.toks) u X (by simpa using a6:a5.PlainList (h B) (U++[F]).toArray) (W.snoc N)⟩,trivial⟩
  ·rw[if_neg P]at O;exact absurd rfl O
end
end
section
theorem NT(a)(b)(c)(d)(e)(f)(g)(h:Array (Option ap))(i:¬(!b.isEmpty&&iy (b.size+e.size))=I)(j:b.size<=cB)(k:b.size+e.size<=cB+1):Meets (Builtin.«list.extend» ⟨[.ref a,.ref d],[]⟩) (λ_ l m=>m.heap.get? a=Z {cls:=.type "list",dict:=D,data:=.seq b c,slots:=#[]}/\m.heap.get? d=Z {cls:=.type "list",dict:=g,data:=.seq e f,slots:=h}/\l (.ok (.ret bW)) {m with heap:=m.heap.update a (cP λn=>n++e),toks:=m.toks}):=.of_wp λo p q l m r=>by obtain⟨s,t,u,v,w⟩:=m;refine mj r λx y r=>?_;wp_walk using(wpAny_updateSeq x rfl (hz:=j) (_hz':=(by refine Array.size_append▸?_;exact k:(b++e).size<=cB+1))),wpAny_loadPart' x,wpAny_loadPart' y;exact lQ _ rfl r
section
variable{g:Gd}{d:List bL}{j:aN}{k n:Wd}{l o:MS}{m p:am}{e:PT}{h i:Nat}{b:CC}{f:bL}{c q:Ro}{r:aX->Prop}{s:List aS}{t:Nat->Prop}{a:Nat->aS}{u v:Type}
set_option tactic.hygienic true in
theorem NU(n:Bx g e h d j f b (NL b) i)(o:(w.endLine==x.line)=I)(p:(y==("__debug__":aX))=ak)(q:b.a y=Z z)(r:lc a0 b A=Z B)(s:FS g d b f i c k l m):ly g d j b f i (eO (.Expr (.Call (.Attribute (.Name y a3) "extend" w) [A] [] x) a4) f) (lV e (kX e h) c (.o z B)) k l m:=by
 cases t:kZ z c with|none=>exact ly.e ly.b (by unfold lV;dsimp only;exact t▸rfl)|some a5=>induction a5 with|a u=>exact ly.e ly.b (by unfold lV;dsimp only;rw[t])|b v=>
  refine ly.e (m':=lN c ((kX e h).ev c B) λC=>match C with|.c E=>if v.length<=4096&&E.length<=4096 then M.pure (k9 z (.b (v++E)) c,.a)else M.b|_=>M.b) ?_ (by unfold lV;dsimp only;rw[t];try rfl);refine EQ n j_ F.type_list_extend o p q r s t λa C u a6 a7 G F a8 H=>?_;cases u<;>first|exact absurd rfl H|skip
  rename_i E;dsimp only at H⊢;by_cases J:(v.length<=4096&&E.length<=4096)=I
  ·rw[if_pos J];simp only[aJ,decide_eq_true_eq]at J;refine nc (F.a.1 z v trivial t) λa9 L b0 b1 b2=>ll L λN b3 O=>?_;obtain⟨P,Q⟩:=b3;obtain⟨b4,R,S,b5,rfl,T,U,V,W⟩:=a8.l;have b6:a z∉lB d:=λc1=>by refine mQ (F.t.K.at (a:=a z) (by rw[qH n.b];exact aq _ c1)) λR T L _=>mY L λc2 c3 U=>?_;rw[Q]at T;obtain rfl:=aa T;contradiction
   have c4:N.toArray.size<=4096:=by rw[aR,O.a];exact J.1
   have c5:S.toArray.size<=4096:=by rw[aR,W.a];exact J.2
   have X:N.toArray.size+S.toArray.size<=cB:=by refine m5▸?_;exact(Y [] [N.toArray.size,S.toArray.size] ⟨[1,2],[],[.L .a (.k 4096),.L .b (.k 4096)],.L (.p .a .b) (.k 16777216)⟩) c4 c5
   obtain⟨c6,d0,d1,d2⟩:=R;dsimp only at U V;subst U V;refine iN j_ ⟨_,Q,rfl⟩ PySem.F.entry_list_extend (PySem.F.args_list_extend_2 _ _) (NT (a z) N.toArray P b4 S.toArray b5 _ _ (extend_door X) (ao (iS _ _) X) (bo X)) ⟨Q,(F.t.H.j _ _ T),?_⟩;have d3:(G.heap.update (a z) (cP λy=>y++S.toArray)).PlainList (a z) (N++S).toArray:=by refine⟨if(N.toArray++S.toArray).size==N.toArray.size then P else P+1,?_⟩;rw[bQ _ Q (by rw[mapSeq_app];rfl),mapSeq_app];simp only[List.append_toArray]
   exact⟨_,.a,a7,a6,rfl,⟨Gr.f (tk:=G.toks) (cS ..) b2 b6,.f (tk:=G.toks) F.t.H (cS ..) b0 b1 (xE ⟨P,Q⟩) .c⟩,⟨a,F.g (a0:=N) (E:=G.toks) t (cS ..) d3 (O.f W)⟩,trivial⟩
  ·rw[if_neg J]at H;exact absurd rfl H
end
end
section
section
variable{b:Gd}{g:List bL}{r:aN}{p t:Wd}{d q:MS}{i k:am}{l:PT}{n h:Nat}{j:CC}{c:bL}{o s:Ro}{w:aX->Prop}{x:List aS}{z:Nat->Prop}{u:Nat->aS}{A v:Type}
theorem SE.a(a:Bx b l n g r c j w h)(e:FS b g j c h o p d i){f:M v}{m:v->M (Ro×Fl)}(q:PE b (c::g) p d i (f d) y k):SE b g j c h p d i (lN o f m d) y k:=by obtain⟨s,t,u,y,x,z,A⟩:=q;exact⟨o,s,t,u,by unfold lN;exact y▸rfl,⟨x.E a.b a.lo (e.li a.lo),.d e.at.H x (al _) (z.w (t.mu+1)) e.at.K.k .c⟩,FS.d e x (z.w (t.mu+1))|>.choose_spec|>λB=>⟨_,⟨⟨z,B.t.K,B.t.R,B.t.L⟩,B.b,B.a⟩⟩,A⟩
noncomputable def AD(a:nq)(b:Nat⊕List Nat)(c:List lT)(d:List V)(o:Ro):Fl->M (Ro×Fl)|.d e=>M.pure (o,.d e)|.c _=>M.b|_=>mT a b c d o
theorem NV{a}(b:mT a e f (m::y) o d=B)(c:B≠.b):∃s,mJ e m o=Z s/\lH a f s d≠.b/\(∀C E q,lH a f s d≠.ok (C,.c E) q)/\∀C F q,lH a f s d=.ok (C,F) q->AD a e f y C F q=B:=by have b:M.lG (mJ e m o) _ d=_:=b;cases g:mJ e m o with|none=>replace b:=g▸b;exact absurd b.symm c|some s=>rw[g]at b;have h:M.bind (lH a f s) (λi=>AD a e f y i.1 i.2) d=B:=b;exact tY (s) rfl (M.d (h▸c)) (λC E q j=>c (h.symm.trans (M.lO j))) (λC F q j=>(M.lO j).symm.trans h)
theorem NW{a:List V}(b:e<a.length):∃f,a[e]?=Z f/\a.drop e=f::a.drop (e+1):=⟨a[e],aI b,fJ b⟩
theorem Gr.C(a:c.frame=Z c.locals)(b:h<=c.locals)(e:h<=F)(f:Gr (lB (c::g)) F p d i t q k):Gr (lB g) h p d i t q k:=f.r e (λj l=>by refine(qH a)▸?_;exact aq _ l) λj l=>by
 rw[qH a]at l;refine aB (List.mem_cons.mp l) (λl=>?_) (λl=>?_);·exact .inr (l▸b)
 ·exact .inl l
theorem Ad.C(a:c.frame=Z c.locals)(e:h<=c.locals)(f:h<=m)(l:li y.heap<=m)(n:FS b g j c h o p d i)(r:Gr (lB (c::g)) m p d i t q k)(s:HS b t q k)(u:Ad b g c h B E y p d i):Ad b g c h B E y t q k:=⟨u.g.a (r.C a e f),u.t.j (.d n.at.H r l s n.at.K.k .c)⟩
section
variable{J:aj}{G:Nat⊕List Nat}{E:List lT}{L:List fq}{M:aS}{B:List V}{F:Nat->Wd->am->Prop}{H:R (Ro×Fl)}{C O N:Nat}
inductive vU(b:Gd)(g:List bL)(l:PT)(n:Nat)(j:CC)(c:bL)(h:Nat)(G:Nat⊕List Nat)(E:List lT)(F:Nat->Wd->am->Prop)(B:List V)(H:R (Ro×Fl))(p:Wd)(d:MS)(i:am)(m:Nat)(k:am):Prop|mk(C:Nat)(W₂:Wd)(S₂:MS)(ρc:Ro)(h1:m=B.length-C)(h2:C<=B.length)(a:Ad b g c h p d i W₂ S₂ k)(f:FS b g j c h ρc W₂ S₂ k)(y:F C W₂ k)(e:mT (kX l n) G E (B.drop C) ρc S₂=H)
noncomputable def vV(a:ek->am->Prop)(b:am->Prop)(c:Flow)(i:am):Prop:=match c with|.next|.cont=>b i|.brk=>a (.ok .next) i|.ret e=>a (.ok (.ret e)) i
theorem NX(a:Bx b l n g r c j (NL j) h)(e:p7 b l n)(f:qZ j J=Z G)(a0:mK O j L=Z E)(k:p6 b r x N ak J M B F)(a3:FS b g j c h o p d i)(a4:F C p i)(a5:VI p a6 a7)(a8:mJ G a7 o=Z s)(a9:lH (kX l n) E s d≠.b)(b0:∀m y P S T U,lH (kX l n) E s d=.ok (y,P) S->Ad b g c h p d i T S U->FS b g j c h y T S U->F C T U->uG T m P->Q m U)(b1:∀y W q,lH (kX l n) E s d≠.ok (y,.c W) q):az (aC b.a b.w) r (iw J c a6) (λ_ b2=>az (aC b.a b.w) r (ig L c) Q b3 b2) b4 i:=by
 refine gz λb5 b6=>?_;refine lA (AC f) λc1 c2=>?_;obtain⟨u,t⟩:=a3;refine b6 ?_;refine Au o_.a (⟨t.t.H,t.t.K,.c⟩:ZT b (c::g) p d i i) a.X.E.d a.F t c2 c1 a5 a8 λc3 v c4 c5=>?_;refine aK (tx e a.X.C a.X.E a.F a.b a.lo (iC a.X.hd) (by have:=a.X.c;exact s5 this) a0 ⟨u,c5⟩ a9) (λm w z=>?_) λc6 w z=>?_;·obtain⟨A,d0,H,R,V,X,d1,d2⟩:=z;exact b0 m A d0 H R w V (Ad.a ⟨c4,v.2.2⟩ X) d1 (Tr.l k (al _) X.t (Tr.l k (al _) v.2.2 a4)) d2
 ·obtain⟨A,W,H,R,V,_⟩:=z;exact absurd V (b1 _ _ _)
theorem NY(a:C<B.length)(e:Ad b g c h p d i t q k)(f:FS b g j c h s t q k)(m:F (C+1) t k)(o:uG t y P)(r:AD (kX l n) G E (B.drop (C+1)) s P q=H){u:ek->am->Prop}(v:∀y k,SQ b g j c h p d i H y k->u (.ok y) k):vV u (λS=>∃T,T<B.length-C/\vU b g l n j c h G E F B H p d i T S) y k:=by induction y<;>induction P<;>first|exact o.elim|exact⟨_,kJ _ _ a,C+1,t,q,s,rfl,a,e,f,m,r⟩|exact v _ _ ⟨s,_,q,t,r.symm,e,f,o⟩
theorem NZ(a:Bx b l n g r c j (NL j) h)(Q:p7 b l n)(R:qZ j J=Z G)(V:mK O j L=Z E)(e:p6 b r (lB (c::g)) N ak J M B F)(f:h<=N)(a5:li i.heap<=N)(a6:H≠.b){m:ek->am->Prop}(a7:∀y k,SQ b g j c h p d i H y k->m (.ok y) k)(a8:vU b g l n j c h G E F B H p d i a9 k):az (aC b.a b.w) r (pyNext (.ref M)) (λP S=>match P with|D=>az (aC b.a b.w) r (ig [] c) (λT U=>m (.ok T) U) W S|some X=>az (aC b.a b.w) r (h_ J (.ref M) X) (λ_ b0=>az (aC b.a b.w) r (iw J c X) (λ_ a0=>az (aC b.a b.w) r (ig L c) (vV m λa3=>∃a4,a4<a9/\vU b g l n j c h G E F B H p d i a4 a3) W a0) W b0) W S) W k:=by
 obtain⟨C,o,q,b1,rfl,b2,b3,T,b4,t⟩:=a8;by_cases u:C<B.length
 ·refine ll (NW u) λb5 b6 c1=>?_;replace t:=c1▸t;refine r9 (NV t a6) λs c2 c3 c4 c5=>?_;refine aK (e.item C o q k b5 (λX a0=>az (aC b.a b.w) r (iw J c X) (λ_ a0=>az (aC b.a b.w) r (ig L c) (vV m λa3=>∃a4,a4<B.length-C/\vU b g l n j c h G E F B H p d i a4 a3) W a0) W a0) W b4 T.at.H b6 λX c6 a3 v w d0 d1 x=>?_) (λP S z=>?_) λ_ _ z=>z;·exact NX a Q R V e ⟨_,T.choose_spec.c x v.le w⟩ d1 d0 c2 c3 (λy d2 d3 d4 d5 S d6 d7 d8 e0 e1=>NY u ((Ad.C a.b a.lo f a5 T v w b3).a d7) d8 e0 e1 (c5 _ _ _ d6) a7) c4
  ·refine ll z λX A e2=>?_;refine A▸?_;exact e2
 ·obtain rfl:C=B.length:=gG b2 (Nat.not_lt.mp u);replace t:=f8▸t;refine aK (e.done B.length o q k (λa0=>az (aC b.a b.w) r (ig [] c) (λy U=>m (.ok y) U) W a0) W b4 T.at.H rfl λa3 v w x=>dw (a7 _ _ ?_)) (λP S z=>?_) λ_ _ z=>z;·exact⟨b1,.a,q,o,t.symm,Ad.C a.b a.lo f a5 T v w b3,⟨_,T.choose_spec.c x v.le w⟩,trivial⟩
  ·refine lA z λA e3=>?_;refine A▸?_;exact e3
end
theorem N0(a:Bx b l n g r c j (NL j) h)(e:p7 b l n){f m}{y}{B}(q:qZ j C=Z E)(s:qC (lc f j) j (pv C) F=Z (G,y))(t:mK m j H=Z B)(J:FS b g j c h o p d i):ly b g r j c h (eO (.For C F H [] a0) c) (lV l (kX l n) o (.h E G y B)) p d i:=by
 intro u;have v:lV l (kX l n) o (.h E G y B)=lN o (lS (kX l n) o ak G y) λw=>mT (kX l n) E B w o:=rfl;rw[v]at u⊢;refine wpAny_For ?_ (EM s);refine aK (Ew (l:=li i.heap) (j:=lB (c::g)) a.X s J.at (al _) (λa3 z=>J.at.K.lt z) (λA=>u (by unfold lN;exact A▸rfl):lS (kX l n) o ak G y d≠.b)) (λa4 k L=>aK L (λa5 a6 L=>?_) λN k z=>SE.a a J z) λN k z=>SE.a a J z;obtain⟨M,O,P,Q,R,a7,a8,S,T,a9,b0,rfl,U,V,b1,b2⟩:=L;obtain rfl:R=ak:=by induction R with|false=>rfl|true=>exact nomatch a8 rfl
 have b3:lN o (lS (kX l n) o ak G y) (λw=>mT (kX l n) E B w o) d=mT (kX l n) E B M o O:=by unfold lN;exact a7▸rfl
 rw[b3]at u⊢;have W:h<=li i.heap:=J.li a.lo;have X:FS b g j c h o P O Q:=J.d S T;exact codeAny_forLoop_any (vU b g l n j c h E B b0 M (mT (kX l n) E B M o O) p d i) (λb4 b5 b6=>NZ (m:=λc1 k=>match c1 with|.ok J=>SQ b g j c h p d i (mT (kX l n) E B M o O) J k|.error N=>ka (aC b.a b.w) r c (SE b g j c h p d i (mT (kX l n) E B M o O)) N k) a e q t b1 W (al _) u (λ_ _ L=>L) b6) M.length ⟨0,P,O,o,rfl,bv _,(Ad.C a.b a.lo W (al _) X (U _ _) V (Ad.C a.b a.lo W (al _) J S T (Ad.c _ _ _))),X.d (U _ _) V,b2,rfl⟩
end
end
section
section
variable{g:Gd}{e:List bL}{o:aN}{h q:Wd}{k r:MS}{i f:am}{d:PT}{j m:Nat}{b:CC}{a:bL}{c s:Ro}{t:aX->Prop}{u:List aS}{p:Nat->Prop}{n:Nat->aS}{v w:Type}
theorem Fs.l(d:Fs g e b a p n m c h k i)(f:i.heap.Ns x y)(l:bA x i.heap z)(o:x∉h.as)(q:h.φ x=D)(r:x≠a.locals)(s:x∉lB e):Fs g e b a p n m c h k {i with heap:=z,toks:=A}:=d.to ⟨λ_ j=>j.sameBut l (dT r),λt=>t,λt=>t,λ_ _ u=>u.sameBut l λv=>rS (v▸f) u,λ_ _ _ t=>t,λ_ _ _ t=>t⟩ (h.a) (d.t.H.f l o q) (d.t.K.to (λw B _ _ C t _=>⟨B,(l.2 w λE=>s (E▸C)).trans t,rfl⟩) (λ_ _ _ _ _ _ t=>t) (λ_ _ _ _ _ _ t=>t)) λF G H J v L s M=>⟨L.imp λ_ N=>(l.2 _ λE=>xx L (xy f) E.symm).trans N,s,M⟩
theorem N4{l:dk}(a:l.Ns x y):∃z,l.get? x=Z z/\∀A,z.data≠.fields A:=nZ a λz b c d e _=>lQ z d λ_=>uo e
theorem N6(l:Bx g d (j+1) e o a b (NL b) m)(a0:Cx g d j (a::e) o a b){x:kR}{y}{z}{A}{B:Nat⊕List Nat}{C}{E}(a3:fT (.ListComp a4 [⟨F,a5,a6,0⟩] x a7) (Z (.Name G a8)) H.line a=ba I)(p:b.a G=Z J)(a9:tq b F x=I)(b0:qC (lc y b) b (pv F) a5=Z (z,A))(b1:o8 (nL b x) F=Z B)(b2:lc y (nL b x) a4=Z C)(b3:lL (lc y (nL b x)) a6=Z E)(q:FS g e b a m c h k i):ly g e o b a m (eO (.Assign [.Name G a8] (.ListComp a4 [⟨F,a5,a6,0⟩] x a7) H) a) (lV d (kX d (j+1)) c (.f J (.lc C B z A E))) h k i:=by
 refine lA (uI p) λr p=>?_;refine(exec_Assign_Name_used _ _ _ _ a3)▸?_;have b4:lV d (kX d (j+1)) c (.f J (.lc C B z A E))=lN c (l_ d (kX d j) c (.lc C B z A E)) λs=>M.pure (k9 J (.a s) c,.a):=rfl;refine b4▸?_;intro b5;refine af (bC (af ?_));refine af (aK (EN (b5:=Z (iw (.Name G a8) a)) (Q:=λ_ f=>SQ g e b a m h k i (lN c (l_ d (kX d j) c (.lc C B z A E)) (λs=>M.pure (k9 J (.a s) c,.a)) k) .next f) a0 a9 b0 b1 b2 b3 q.at (λv=>b5 (by unfold lN;exact v▸rfl):l_ d (kX d j) c (.lc C B z A E) k≠.b) ?_ (λb6 f c1=>SE.a l q c1)) (λ_ f c2=>au (au c2)) λ_ _ b6=>b6);intro w L N O P Q c3 c4 c5 c6 d0 d1 d2 d3 d4 d5 d6 d7;refine gz λd8 e0=>?_;obtain⟨n,R⟩:=q;obtain⟨⟨v,H⟩,s,e1,S⟩:=d0;refine e0 ?_;have e2:=(R.d c5 c6.H).j H rfl e1 S λe3 e4 e5 e6 T=>by refine mj (R.a.1 e3 e4 trivial e6) λ_ e7 _=>ll e7 λe8 e9 _=>?_;obtain⟨f1,f2⟩:=e9;rw[T]at f2;exact aZ _ (aF (nJ f2) d4)
 have f3:m<=li i.heap:=FS.li l.lo ⟨n,R⟩;have f4:N.le (N.b w {cls:=.type "list",data:=.seq Q.toArray v}):=(Gr.m (FA:=[]) (n:=0) (S:=O) (s:=P) S (bv _)).le;have f5:VI (N.b w {cls:=.type "list",data:=.seq Q.toArray v}) (.ref w) (.c c3):=.c (Wd.c _ _ _) rfl rfl (s.k f4);have f6:Ad g e a m h k i (N.b w {cls:=.type "list",data:=.seq Q.toArray v}) O P:=⟨(c5.E l.b l.lo f3).a (Gr.m S (ao f3 d4)),.d R.t.H c5 (al _) c6.H R.t.K.k (.h H (λ_=>wY rfl) S .c)⟩;have f9:o_ (N.b w {cls:=.type "list",data:=.seq Q.toArray v}) a (NL b) (λf=>ZT g (a::e) (N.b w {cls:=.type "list",data:=.seq Q.toArray v}) O P f/\∃U,f.heap.Ns L U):=by
  refine⟨λf V W⟨g0,U,X⟩g1 g2=>⟨(o_.a (o:=NL b) (c:=a)).grow f V W g0 g1 g2,U,?_⟩,λf G s V W⟨g0,U,X⟩r g3=>⟨o_.a.f f G s V W g0 r g3,?_⟩⟩;·refine gz λd8 e0=>?_;obtain⟨g4,g5,g6,g7,g8⟩:=X;refine e0 ?_;exact BY g4 g5 g6 (g1 _ _ g7) g8
  ·by_cases h0:L=m6 a G
   ·refine aB g3.c (λe7=>mB e7 λU h1 _ v=>?_) (λe9=>lp e9 λh2 v=>?_);·exact mf h1 (h0▸v)
    ·exact(rS X (h0▸v)).elim
   ·exact⟨U,X.sameBut g3.a h0⟩
 refine xz f9 ⟨⟨e2.t.H,e2.t.K,.c⟩,d5⟩ l.F e2 p r f5 λh3⟨h4,U,h5⟩h6 h7=>⟨U,h5,λV h8=>?_⟩;have h9:L≠w:=λT=>by obtain⟨g4,g5,g6,g7,i0,_⟩:=d5.choose_spec;exact tm (T▸g7) i0 H rfl
 have i1:(N.b w {cls:=.type "list",data:=.seq Q.toArray v}).φ L=D:=(sD h9).trans d2;refine⟨k9 J (.a (.c c3)) c,.a,O,_,by unfold lN;refine c4▸?_;rfl,f6.a ⟨h6.a (Gr.f (tk:=h3.toks) h8 (ao f3 d3) (λT=>d6 (by rw[qH l.b];exact aq _ T):L∉lB e)),h4.2.2.j (.f (tk:=h3.toks) h7.t.H h8 d1 i1 (N4 h5) .c)⟩,⟨n,(h7.l (A:=h3.toks) h5 h8 d1 i1 (λT=>d6 (by rw[qH l.b,T];exact aw ..):L≠a.locals) d6)⟩,trivial⟩
end
end
section
set_option backward.match.sparseCases true
section
variable{f:Gd}{c:List bL}{n:aN}{h t:Wd}{j u:MS}{g o:am}{k:PT}{e i:Nat}{d:CC}{b:bL}{a s:Ro}{r:aX->Prop}{l:List aS}{m:Nat->Prop}{p:Nat->aS}{q v:Type}
noncomputable def rT(b:bL)(a:Nat):aj->Option aX|.Name id w=>if b.kindOf id==Z .local&&w.line==a then Z id else D|_=>D
noncomputable def vW(b:bL)(a:List aj)(c:gF (Option (List aX))):Prop:=c=ba D\/∃d,c=ba (Z (a.filterMap (rT b d)))/\(a.length=2\/a.length=3)/\(a.filterMap (rT b d)).length=a.length/\(a.filterMap (rT b d)).eraseDups.length=(a.filterMap (rT b d)).length
theorem xG{q:Type}{w:Prop}[Decidable w]{x y:q}{m:q->Prop}(a:m x)(b:¬w->m y):m (if w then x else y):=by
 by_cases c:w;·exact(if_pos c).symm▸a
 ·exact(if_neg c).symm▸b c
theorem N7{w x}{y z A B}(a:xf (.Tuple x z B)=I):vW b w (eZ [.Tuple w y A] (.Tuple x z B) b):=by
 let c:=(w.head?.map (·.pos.line)).getD 0;have d:eZ [.Tuple w y A] (.Tuple x z B) b=(if !(w.length==2||w.length==3)||x.length !=w.length||b.blockKind !=.function then ba D else if x.any (λ|.Starred ..=>I|_=>ak)then ba D else if(w.filterMap (rT b c)).length !=w.length||(w.filterMap (rT b c)).eraseDups.length !=(w.filterMap (rT b c)).length then ba D else if x.all (foldedForSure 8)then ba D else if x.all (jZ 8)then unsupported "assign.tuple-of-constant-expressions:order-of-the-stores"else ba (Z (w.filterMap (rT b c)))):=rfl;rw[d,((dZ _).mp a:x.all (jZ 8)=ak)];refine xG (m:=vW b w) (.inl rfl) λe=>xG (m:=vW b w) (.inl rfl) λ_=>xG (m:=vW b w) (.inl rfl) λf=>xG (m:=vW b w) (.inl rfl) λ_=>.inr ⟨c,rfl,?_,?_⟩;·refine eP λg=>e ?_;refine((Bool.eq_false_iff.mpr λh=>g (by simpa using h):(w.length==2||w.length==3)=ak))▸?_;rfl
 ·exact⟨eP λh=>f (Bool.or_eq_true_iff.mpr (.inl (bne_iff_ne.mpr h))),eP λh=>f (Bool.or_eq_true_iff.mpr (.inr (bne_iff_ne.mpr h)))⟩
theorem N8(k:o_ h b r w)(q:Fv f d b r i l):∀{x:List (aX×Nat)}{y:List ap}{z:List V}{a:Ro}{g:am}{s:Unit->am->Prop},(∀A∈x,d.b A.1=Z A.2/\r A.1)->lx h y z->x.length=z.length->w g->Fs f c d b m p i a h j g->(∀o,w o->Gr l i h j g h j o->Fs f c d b m p i (((x.map (·.2)).zip z).foldl (λa A=>k9 A.1 (.a A.2) a) a) h j o->s () o)->az (aC f.a f.w) n (assignInOrder ((x.map (·.1)).map λe=>kb b e) y) s B g:=by
 intro t;induction t with
 |nil=>intro y z a g s u v C E F G;cases v with|c=>exact kH (G g E (Gr.c _ _ _) F)|b _ _=>simp at C
 |cons A x H=>intro y z a g s u v C E F G;cases v with|c=>simp at C|@b J L y z v M=>refine lA (u A (aw ..)) λN O=>?_;refine kI (j9 (vR q.a (q.g _ O) q.b (q.cx _) F.b λP Q R=>?_));exact H (λA S=>u A (aq _ S)) M (by simpa using C) (k.f g _ J P Q E O R) (F.f q N v R) λT U W X=>G T U ((Gr.f R.a (q.lo _ O) (q.e _ O)).a W) X
theorem N9(w:List (Nat×V)){x y:Ro}(b:∀z,kZ z x=kZ z y)(z):kZ z (w.foldl (λa A=>k9 A.1 (.a A.2) a) x)=kZ z (w.foldl (λa A=>k9 A.1 (.a A.2) a) y):=by induction w generalizing x y with|nil=>exact b z|cons A w c=>exact c (λz=>by rw[oi,oi,b])
theorem N_{q:Type}{w:q}{x y}(a:∀z,kZ z x=kZ z y)(z):kZ z (k9 A w x)=kZ z (k9 A w y):=by rw[oi,oi,a]
theorem Oa{w:Nat}(x:List (Nat×V)):∀(a:Ro),w∉x.map (·.1)->∀y,kZ y (x.foldl (λa z=>k9 z.1 (.a z.2) a) (k9 w (.a A) a))=kZ y (k9 w (.a A) (x.foldl (λa z=>k9 z.1 (.a z.2) a) a)):=by
 induction x with|nil=>exactλ_ _ _=>rfl|cons z x b=>
  intro a c y;rw[dr,cy,not_or]at c;refine ah (congrArg _ eJ) ?_;rw[eJ,←b _ c.2];have d:∀y,kZ y (k9 z.1 (.a z.2) (k9 w (.a A) a))=kZ y (k9 w (.a A) (k9 z.1 (.a z.2) a)):=λy=>by
   rw[oi,oi,oi,oi];by_cases e:y=w;·refine ah ?_ (if_pos e).symm;refine ah (congrArg _ (if_pos e)) ?_;exact(if_neg λf=>c.1 (e.symm.trans f))
   ·refine ah ?_ (if_neg e).symm;exact congrArg _ (if_neg e)
  exact N9 _ d y
theorem Ob(w:List (Nat×V)):∀(a:Ro),(w.map (·.1)).Nodup->∀x,kZ x (w.reverse.foldl (λa y=>k9 y.1 (.a y.2) a) a)=kZ x (w.foldl (λa y=>k9 y.1 (.a y.2) a) a):=by induction w with|nil=>exactλ_ _ _=>rfl|cons y w b=>intro a c x;refine lA (List.nodup_cons.mp c) λd e=>?_;rw[iz,List.foldl_append];exact(N_ (b a e) x).trans (Oa w a d x).symm
theorem Oc(a:rT b w x=Z y):∃z,x=.Name y z:=by
 cases x with|Name c z=>
  have a:(if b.kindOf c==Z .local&&z.line==w then Z c else D)=Z y:=a;by_cases d:(b.kindOf c==Z .local&&z.line==w)=I;·rw[if_pos d]at a;exact⟨z,aa a▸rfl⟩
  ·rw[if_neg d]at a;exact nn a|_=>exact nn a
theorem lx.reverse(a:lx h w x):lx h w.reverse x.reverse:=by induction a using lx.e with|c=>exact .c|b b _ c=>refine iz▸?_;rw[iz];exact c.f (.b b .c)
theorem Od(m:Bx f k e c n b d (NL d) i){w:List (aX×Nat)}{x}{y}(a0:eZ [.Tuple z A B] C b=ba (Z (w.map (·.1))))(a3:fT C (Z (.Tuple z A B)) E.line b=ba ak)(a4:∀E∈w,d.b E.1=Z E.2/\NL d E.1)(o:w.map (·.2)=y)(a5:∀F:List V,F.length=y.length->∀(a:Ro)G,kZ G ((y.reverse.zip F.reverse).foldl (λa E=>k9 E.1 (.a E.2) a) a)=kZ G ((y.zip F).foldl (λa E=>k9 E.1 (.a E.2) a) a))(a6:lc a7 d C=Z x)(q:FS f c d b i a h j g):ly f c n d b i (eO (.Assign [.Tuple z A B] C E) b) (lV k (kX k e) a (.c y x)) h j g:=by intro t;refine Assign_Tuple_swapped ?_ a3 a0;refine uH m q (m.X.ev a6 q.at) t λC u v H J a8 a9 b0 b1 L=>?_;obtain⟨p,N⟩:=b0;have b2:lV k (kX k e) a (.c y x) j=(match mJ (.inr y) u a with|some s=>(M.pure (s,Fl.a):M (Ro×Fl))|D=>M.b) H:=L;rw[b2]at t⊢;cases G:mJ (.inr y) u a with|none=>rw[G]at t;exact absurd rfl t|some b3=>replace t:=G▸t;refine mQ (As G) λF b4 O b5=>?_;subst b4;refine b5▸?_;obtain⟨P,Q,R,b6,rfl,c1,c2,c3,S⟩:=b1.o;rw[(by rw[aR,S.a,←O,←o,ay,ay]:(w.map (·.1)).length=R.toArray.size)];refine rI (unpackItems_tuple (items:=R.toArray) m.X.E.d ⟨Q,N.t.H.j _ _ c1,c2,b6,c3⟩ λT c4 c5=>?_);have U:∀P Q,J.heap.get? P=Z Q->T.get? P=Z Q:=λP Q L=>c4 P Q (cY (bK L)) L;have W:∀{l e},Gr l e v H J v H {J with heap:=T}:=λ{l e}=>Gr.h (FA:=l) (n:=e) (tk:=J.toks) U c5;have X:Fs f (b::c) d b (λ_=>True) p i a v H {J with heap:=T}:=N.d W (N.t.H.h (tk:=J.toks) U);rw[(by simp only[List.map_reverse]:(w.map (·.1)).reverse.map (λe=>kb b e)=((w.reverse).map (·.1)).map λe=>kb b e),(rfl:(R.toArray.toList).reverse=R.reverse)];refine N8 (o_.a (o:=NL d)) m.F (λE c6=>a4 E (List.mem_reverse.mp c6)) S.reverse (by refine ah List.length_reverse ?_;refine ah ?_ List.length_reverse.symm;refine ah ?_ O;refine o▸?_;rw[ay]) (⟨X.t.H,X.t.K,.d N.t.H W (al _) X.t.H N.t.K.k .c⟩:ZT f (b::c) v H J _) X λd0 d1 d2 d3=>?_;rw[(by refine ah List.map_reverse ?_;exact o▸rfl:w.reverse.map (·.2)=y.reverse)]at d3;exact SQ.b a9 ⟨_,_,H,v,rfl,⟨W.a d2,d1.2.2⟩,⟨p,d3.e (a5 F O.symm a)⟩,trivial⟩
theorem Oe(e):∀(c:List aX),c.length<=e->c.eraseDups.length<=c.length:=by induction e with|zero=>exactλc a=>by exact(List.length_eq_zero_iff.mp (Nat.le_zero.mp a))▸(al _)|succ e b=>intro c a;induction c with|nil=>exact al _|cons d c=>rw[kK];exact cM (ao (b _ (ao (bp ..) (jU a))) (bp ..))
theorem Of(c:List aX):c.eraseDups.length=c.length->c.Nodup:=by
 induction c with|nil=>exactλ_=>.nil|cons a c b=>
  intro d;rw[kK]at d;have e:(c.filter λf=>!f==a).length=c.length:=gG (bp ..) (hZ d▸Oe _ _ (al _));refine List.nodup_cons.mpr ⟨λg=>?_,b ?_⟩;·have:=List.length_filter_eq_length_iff.mp e a g;simp at this
  ·rw[(List.filter_eq_self.mpr (List.length_filter_eq_length_iff.mp e))]at d;exact hZ d
theorem Og(a:∀w x,y w=Z x->∃z,w=.Name x z)(A):∀{B:List Nat},lL (sy d) A=Z B->(A.filterMap y).length=A.length->∃C:List (aX×Nat),A.filterMap y=C.map (·.1)/\C.map (·.2)=B/\∀z∈C,d.b z.1=Z z.2/\∃E,.Name z.1 E∈A:=by
 induction A with|nil=>exactλb _=>⟨[],rfl,(oh b).symm,λ_ c=>nomatch c⟩|cons w A e=>
  intro B b f;refine lP (nB b) λg h i j k=>?_;subst k;refine mB (xd i) λx z k l=>?_;subst k;rw[ie]at f⊢;cases E:y (.Name x z)with|none=>rw[E]at f;exact absurd (List.length_filterMap_le y A) ((show(List.filterMap y A).length=A.length+1 from f).symm▸(Nat.not_succ_le_self _))|some c=>
   rw[E]at f;refine lp (a _ _ E) λm n=>?_;injection n with o p;refine o▸?_;refine mQ (e j (hZ f)) λC q r s=>?_;refine pQ ((x,g)::C) (by refine dr▸?_;exact q▸rfl) (by refine List.map_cons.symm▸?_;exact r▸rfl) (λm t=>?_);refine aB (List.mem_cons.mp t) (λk=>?_) (λt=>?_);·refine k▸?_;exact⟨l,z,aw ..⟩
   ·exact(s m t).imp_right λb=>b.imp λ_ b=>aq _ b
theorem Oh{w:aX->Option Nat}{x:List (aX×Nat)}(a:∀y∈x,w y.1=Z y.2)(b:∀z A B,w z=Z B->w A=Z B->z=A)(c:(x.map (·.1)).Nodup):(x.map (·.2)).Nodup:=by induction x with|nil=>exact .nil|cons y x d=>refine lA (List.nodup_cons.mp c) λe f=>?_;refine List.nodup_cons.mpr ⟨λg=>?_,d (λy h=>a y (aq _ h)) f⟩;refine ll (List.mem_map.mp g) λi j k=>?_;exact e (List.mem_map.mpr ⟨i,j,b _ _ y.2 ((show i.2=y.2 from k)▸a i (aq _ j)) (a y (aw ..))⟩)
theorem AE{w x y z}(a:A=.Tuple w x y):fT B (Z A) z b=ba ak:=by subst a;cases B<;>rfl
theorem Oi(l:Bx f k e c n b d (NL d) i){w:Nat}{x}{y}{z}(m:xf x=I)(o:qZ d (.Tuple A B C)=Z (.inr z))(p:lc w d x=Z y)(q:FS f c d b i a h j g):ly f c n d b i (eO (.Assign [.Tuple A B C] x E) b) (lV k (kX k e) a (.c z y)) h j g:=by
 by_cases r:∃s t u,x=.Tuple s t u
 ·refine yQ r λs t u v=>?_;subst v;refine aB (N7 (b:=b) (w:=A) (y:=B) (A:=C) m) (λF=>?_) (λG=>r9 G λa0 F a3 H J=>?_);·exact EP l ⟨_,_,_,rfl⟩ F (AE rfl) o p q
  ·refine lA (AC o) λL M=>?_;refine ll (Option.map_eq_some_iff.mp (show(lL (sy d) A).map jp=Z (.inr z)from M)) λN O a4=>?_;refine(Sum.inr.inj a4)▸?_;refine mQ (Og (λ_ _=>Oc) A O H) λa5 P Q R=>?_;have S:=Of _ J;rw[P]at F S;refine Od l F (AE rfl) (λE T=>(R E T).imp_right λ⟨U,a6⟩=>L _ (List.mem_flatMap.mpr ⟨_,a6,List.mem_singleton.mpr rfl⟩)) Q (λV W a U=>?_) p q;refine(show N.reverse.zip V.reverse=(N.zip V).reverse from(List.reverse_zipWith W.symm).symm)▸?_;refine Ob _ a ?_ U;refine((List.map_fst_zip (bV W.symm):(N.zip V).map (·.1)=N)).symm▸?_;refine Q▸?_;refine Oh (λE T=>(R E T).1) (λa7 y X P p=>?_) S;refine(l.F.d a7 X (CC.k P))▸?_;exact(l.F.d y X (CC.k p))▸rfl
 ·have F:eZ [.Tuple A B C] x b=ba D:=by cases x<;>first|rfl|exact absurd ⟨_,_,_,rfl⟩ r
  exact EP l ⟨_,_,_,rfl⟩ F (AE rfl) o p q
end
end
section
structure Ok(G:Gd)(T:PT)(n:Nat):Prop where
 iv:ux G T n
 it:vK G T n
 d:rP G T n
 a:p7 G T n
section
variable{b:Gd}{j:List bL}{p:aN}{o s:Wd}{i r:MS}{q n:am}{c:PT}{h k:Nat}{g:CC}{d:bL}{l t:Ro}{u:aX->Prop}{v:List aS}{w:Nat->Prop}{x:Nat->aS}{y z:Type}
theorem Cx.at(a:Cx b c h j p d g)(e:Ok b c f)(i:f<=h):Cx b c f j p d g:=⟨e.iv,e.it,e.d,a.C,a.E,by have:=a.hd;exact(Y [] [f,h,p.depth] ⟨[1,3],[],[.L .a .b,.L (.p .c (.p .b .u)) (.k 990)],.L (.p .c (.p .a .u)) (.k 990)⟩) i this,by have:=a.c;exact(Y [] [f,h,p.units] ⟨[1,3],[],[.L .a .b,.L (.p .c (.m 8 (.p .b .u))) (.k 9000)],.L (.p .c (.m 8 (.p .a .u))) (.k 9000)⟩) i this⟩
theorem Bx.at(a:Bx b c h j p d g u k)(e:Ok b c f)(i:f<=h):Bx b c f j p d g u k:=⟨a.X.at e i,a.F,a.b,a.lo⟩
section
variable{G H:Nat}{E:aj}{F:List fq}{A:ls}{B:List lT}{C:R (Ro×Fl)}
noncomputable def xH(a:nq)(A:ls)(B:List lT)(l:Ro):Fl->M (Ro×Fl)|.d e=>M.pure (l,.d e)|.c _=>M.b|_=>a.ex l (.a A B)
theorem Oj{a}(b:lV c a l (.a A B) i=C)(d:C≠.b):∃e f,a.b l A i=.ok e f/\(e=ak->.ok (l,.a) f=C)/\(e=I->lH a B l f≠.b/\(∀m A r,lH a B l f≠.ok (m,.c A) r)/\∀m J r,lH a B l f=.ok (m,J) r->xH a A B m J r=C):=by have b:M.bind (qW (a.b l A)) (λe=>bif e then M.bind (lH a B l) (λg=>xH a A B g.1 g.2)else M.pure (l,.a)) i=C:=b;cases h:a.b l A i with|b=>exact absurd (b.symm.trans (by delta M.bind qW;exact h.symm▸rfl)) d|c j r=>exact absurd (b.symm.trans (by delta M.bind qW;exact h▸rfl)) d|ok e f=>rw[M.lO (by unfold qW;exact h.symm▸rfl:qW (a.b l A) i=.ok e f)]at b;refine mh e f rfl (λj=>by rw[j]at b;exact b) (λj=>?_);rw[j]at b;have b:M.bind (lH a B l) (λg=>xH a A B g.1 g.2) f=C:=b;exact oz (M.d (b▸d)) (λm A r h=>d (b.symm.trans (M.lO h))) (λm J r h=>(M.lO h).symm.trans b)
inductive vX(b:Gd)(j:List bL)(c:PT)(h:Nat)(g:CC)(d:bL)(k:Nat)(A:ls)(B:List lT)(C:R (Ro×Fl))(o:Wd)(i:MS)(q:am)(m:Nat)(n:am):Prop|mk(W₂:Wd)(S₂:MS)(ρc:Ro)(h1:m<=h)(a:Ad b j d k o i q W₂ S₂ n)(f:FS b j g d k ρc W₂ S₂ n)(e:lV c (kX c m) ρc (.a A B) S₂=C)
theorem Ol(a:e<=h)(f:C≠.b)(l:Ad b j d k o i q s r n)(m:FS b j g d k t s r n)(p:uG s J L)(u:xH (kX c e) A B t L r=C){v:ek->am->Prop}(w:∀J n,SQ b j g d k o i q C J n->v (.ok J) n):vV v (λN=>∃O,O<e/\vX b j c h g d k A B C o i q O N) J n:=by
 have x:(kX c e).ex t (.a A B) r=C->∃O,O<e/\vX b j c h g d k A B C o i q O n:=λy=>by induction e with|zero=>exact absurd y.symm f|succ e=>exact⟨e,gd _,s,r,t,iC a,l,m,y⟩
 induction J<;>induction L<;>first|exact p.elim|exact x u|exact w _ _ ⟨t,_,r,s,u.symm,l,m,p⟩
theorem Om(a:Bx b c h j p d g (NL g) k)(e:∀f,f<=h->Ok b c f)(l:lc G g E=Z A)(m:mK H g F=Z B)(r:C≠.b){s:ek->am->Prop}(t:∀J n,SQ b j g d k o i q C J n->s (.ok J) n)(u:vX b j c h g d k A B C o i q f n):az (aC b.a b.w) p (isTrue E d (bu E d)) (λL N=>if L then az (aC b.a b.w) p (ig F d) (vV s λO=>∃P,P<f/\vX b j c h g d k A B C o i q P O) S N else az (aC b.a b.w) p (ig [] d) (λT U=>s (.ok T) U) S N) S n:=by
 refine gz λa0 a3=>?_;obtain⟨a4,a5,a6,v,a7,w,x⟩:=u;refine lP (Oj x r) λL y z a8 a9=>?_;refine a3 ?_;refine((a.at (e f v) v).X.b l w.at).l z λb0 M U Q R b1=>?_;induction b1;have V:=w.d Q R;have W:Ad b j d k o i q M y U:=a7.a ⟨Q.E a.b a.lo (w.li a.lo),.d w.at.H Q (al _) R w.at.K.k .c⟩
 induction b0 with|false=>
  exact dw (t _ _ ⟨a6,.a,y,M,(a8 rfl).symm,W,V,trivial⟩)|true=>
  refine mj (a9 rfl) λb2 b3 x=>?_;refine aK (tx (e f v).a a.X.C a.X.E a.F a.b a.lo (by have:=a.X.hd;exact(Y [] [f,h,p.depth] ⟨[1,3],[],[.L .a .b,.L (.p .c (.p .b .u)) (.k 990)],.L (.p .c .a) (.k 990)⟩) v this) (by have:=a.X.c;exact(Y [] [f,h,p.units] ⟨[1,3],[],[.L .a .b,.L (.p .c (.m 8 (.p .b .u))) (.k 9000)],.L (.p .c (.m 8 .a)) (.k 9000)⟩) v this) m V b2) (λJ b4 z=>?_) λb5 b4 z=>?_;·obtain⟨b6,c1,c2,c3,X,c4,c5,c6⟩:=z;exact Ol v r (W.a c4) c5 c6 (x _ _ _ X) t
  ·obtain⟨b6,A,c2,c3,X,_⟩:=z;exact absurd X (b3 _ _ _)
end
theorem On(a:Bx b c h j p d g (NL g) k)(e:∀f,f<=h->Ok b c f){m A}(r:lc m g B=Z C)(s:mK A g E=Z F)(G:FS b j g d k l o i q):ly b j p g d k (eO (.While B E [] H) d) (lV c (kX c h) l (.a C F)) o i q:=λt=>wpAny_While (codeAny_whileLoop (vX b j c h g d k C F (lV c (kX c h) l (.a C F) i) o i q) (λf u v=>Om (s:=λw n=>match w with|.ok G=>SQ b j g d k o i q (lV c (kX c h) l (.a C F) i) G n|.error J=>ka (aC b.a b.w) p d (SE b j g d k o i q (lV c (kX c h) l (.a C F) i)) J n) a e r s t (λ_ _ x=>x) v) h ⟨o,i,l,al _,Ad.c _ _ _,G,rfl⟩)
end
end
noncomputable def AF(a:am)(b:dW)(c:List ap):Prop:=(b.defaults=.none/\c=[])\/∃d e f,b.defaults=.ref d/\a.heap.get? d=Z e/\e.data=.seq c.toArray f
theorem ER:∀{a:List aX}{b:List ap}{c:Nat}{d:aX},a[c]?=Z d->c<b.length->((a.zip b).lookup d).isSome=I:=by intro e;induction e with|nil=>intro b c d f _;simp at f|cons g a h=>intro i;induction i with|nil=>intro c d f j;simp at j|cons k b=>intro c d f j;refine cv▸?_;refine ah (congrArg _ be) ?_;cases l:d==g with|true=>rfl|false=>induction c with|zero=>simp at f;induction f;simp at l|succ c=>exact h (by simpa using f) (by simpa using j)
theorem Oo:∀{a:List aX}{b:List ap}{c:Nat}{d:aX},a.Nodup->a[c]?=Z d->b.length<=c->(a.zip b).lookup d=D:=by
 intro e;induction e with|nil=>
  intro b c d _ f _;simp at f|cons g a h=>
  intro i
  induction i with|nil=>
   intro c d _ f j;rfl|cons k b=>
   intro c d l f j;induction c with|zero=>simp at j|succ c=>
    refine ah (congrArg _ cv) ?_;refine ah be ?_;have m:a[c]?=Z d:=by simpa using f
    have:(d==g)=ak:=by have:d≠g:=λn=>(List.nodup_cons.mp l).1 (n▸(aH m));simpa using this
    refine this▸?_;exact h (List.nodup_cons.mp l).2 m (by simpa using j)
theorem Op:∀{a:List aX}{b:List ap}{c:Nat}{d:aX}{e:ap},a[c]?=Z d->b.length=c->a.zip b++[(d,e)]=a.zip (b++[e]):=by intro f;induction f with|nil=>intro b c d e g _;simp at g|cons h a i=>intro j;induction j with|nil=>intro c d e g k;simp at k;subst k;simp at g;subst g;simp|cons l b=>intro c d e g k;induction c with|zero=>simp at k|succ c=>refine cv▸?_;refine ah iG ?_;rw[iG,cv,i (by simpa using g) (by simpa using k)]
theorem Oq:∀{a:List aX}{b:List ap},a.Nodup->a.length=b.length->a.filterMap (λc=>((a.zip b).lookup c).map (c,·))=a.zip b:=by
 intro a b d e;have f:∀(g:List (aX×ap))(a:List aX)(b:List ap),a.Nodup->(∀c∈a,g.lookup c=D)->a.length=b.length->a.filterMap (λc=>((g++a.zip b).lookup c).map (c,·))=a.zip b:=by
  intro g a;induction a generalizing g with|nil=>intro b _ _ _;rfl|cons h a i=>
   intro b d j e;induction b with|nil=>simp at e|cons k b=>
    have l:(g++(h::a).zip (k::b)).lookup h=Z k:=by refine ah kT ?_;refine(j h (aw ..))▸?_;simp[be]
    refine ah ie ?_;refine l▸?_;simp only[gc,cv];congr 1;have:=i (g++[(h,k)]) b (List.nodup_cons.mp d).2 (λc m=>by
     refine ah kT ?_;refine(j c (aq _ m)).symm▸?_;have:(c==h)=ak:=by have:c≠h:=λl=>(List.nodup_cons.mp d).1 (l▸m);simpa using this
     simp[be,this]) (by simpa using e);rw[bP]at this;exact this
 exact f [] a b d (λ_ _=>rfl) e
theorem Os{a:List aX}(b:a.Nodup):∀(c d:List ap)(e:Nat),e<=d.length->a.length=e+c.length->d.length<=a.length->(forIn ((a.drop e).zip c) (a.zip d) λ(f:aX×ap)(g:List (aX×ap))=>(if(g.lookup f.1).isNone=I then ba (bM (g++[(f.1,f.2)]))else ba (bM g):gF (ForInStep (List (aX×ap)))))=ba (a.zip (d++c.drop (d.length-e))):=by
 intro h;induction h with|nil=>
  intro d e i j k;refine List.zip_nil_right.symm▸?_;refine ah gQ ?_;refine List.drop_nil.symm▸?_;rw[cU]|cons l c m=>
  intro d e i j k;have n:e<a.length:=by simp at j;exact(Y [] [a.length,e,c.length] ⟨[1,2,3],[],[.E .a (.p .b (.p .c .u))],.T .b .a⟩) j
  have o:a[e]?=Z a[e]:=aI n;rw[fJ n,cv,gu];by_cases p:e<d.length
  ·have:=ER o p;have q:((a.zip d).lookup a[e]).isNone=ak:=by cases r:(a.zip d).lookup a[e]with|none=>replace this:=r▸this;cases this|some _=>rfl
   simp only[q,fj,if_false,pure_bind];refine ah (m d (e+1) p (by simp at j;exact(Y [] [a.length,e,c.length] ⟨[1],[],[.E .a (.p .b (.p .c .u))],.E .a (.p (.p .b .u) .c)⟩) j) k) ?_;congr 3;have:d.length-e=d.length-(e+1)+1:=by exact(Y [] [e,d.length] ⟨[1,3,2,4],[.s .b .a,.s .b (.p .a .u)],[.L .a .b,.T .a .b],.E .c (.p .d .u)⟩) i p
   rw[this,List.drop_succ_cons]
  ·have s:d.length=e:=by exact(Y [] [e,d.length] ⟨[1],[],[.L .a .b,.N (.T .a .b)],.E .b .a⟩) i p
   have:=Oo b o ((Y [] [e,d.length] ⟨[2],[],[.L .a .b,.N (.T .a .b)],.L .b .a⟩) i p:d.length<=e);simp only[this,Option.isNone_none,if_true,pure_bind];refine(Op o s)▸?_;have t:(d++[l]).length=e+1:=by refine ah aW ?_;refine s▸?_;rfl
   rw[m (d++[l]) (e+1) ((Y [] [(d++[l]).length,e] ⟨[1],[],[.E .a (.p .b .u)],.L (.p .b .u) .a⟩) t) (by simp at j;exact(Y [] [a.length,e,c.length] ⟨[1],[],[.E .a (.p .b (.p .c .u))],.E .a (.p (.p .b .u) .c)⟩) j) ((Y [] [a.length,e,(l::c).length,(d++[l]).length] ⟨[1,2,4,3],[],[.E .a (.p .b .c),.T .b .a,.E .d (.p .b .u)],.L .d .a⟩) j n t)];rw[t,s];simp
theorem ES{a:am}(b:fd.params.posonlyargs=[])(c:fd.params.args.map (·.arg)=d)(e:fd.params.kwonlyargs=[])(f:fd.params.vararg=D)(g:fd.params.kwarg=D)(h:d.Nodup)(i:j.length<=d.length)(k:d.length<=j.length+l.length)(m:l.length<=d.length)(n:AF a fd l):BindsTo a fd ⟨j,[]⟩ (d.zip (j++l.drop (l.length-(d.length-j.length)))):=by
 intro o p q r s;obtain⟨t,u,⟨v,w,x,y,a0,a3,a4⟩,a5,a6,a7,a8,z,a9,b0,b1,b2,b3,b4,b5⟩:=fd;dsimp only at b c e f g;subst b e f g;have A:∀{r:Option (Array ap)->am->Prop},(∀B,(B.getD #[]).toList=l->r B a)->az o p (seqItems? z) r q a:=λ{r}C=>by
  rcases n with⟨E,F⟩|⟨G,b6,H,E,J,L⟩;·refine(show z=.none from E)▸?_;exact au (C D (by refine ah ?_ F.symm;rfl))
  ·refine(show z=.ref G from E)▸?_;exact wpAny_seqItems J L (C _ (by rfl))
 refine af (et (a:=_) rfl ?_);refine af (A λB M=>?_);have N:l.length-d.length=0:=kl m;have O:(d.take (d.length-l.length)).filter (λH=>((d.zip j).lookup H).isNone)=[]:=by
  rw[ee];intro P Q;obtain⟨R,S,E⟩:=kD Q;have T:R<d.length-l.length:=by rw[f_]at S;exact aF S (jl _ _)
  have U:d[R]?=Z P:=by rw[List.getElem_take]at E;refine E▸?_;rw[aI]
  have:=ER (b:=j) U ((Y [] [d.length,j.length,l.length,R] ⟨[1,3,2,5,4],[.s .a .c],[.L .a (.p .b .c),.T .d .e],.T .d .b⟩) k T);cases V:(d.zip j).lookup P with|none=>replace this:=V▸this;cases this|some _=>simp
 have W:=Os h l j (d.length-l.length) ((Y [] [d.length,j.length,l.length] ⟨[4,3,1,2],[.s .a .c],[.L .a (.p .b .c)],.L .d .b⟩) k) ((Y [] [l.length,d.length] ⟨[1],[.s .b .a],[.L .a .b],.E .b (.p .c .a)⟩) m) i;replace W:=(show j.length-(d.length-l.length)=l.length-(d.length-j.length)by exact(Y [] [j.length,d.length,l.length] ⟨[1,3,4,5,7],[.s .b .c,.s .a .d,.s .b .a,.s .c .f],[.L .a .b,.L .b (.p .a .c),.L .c .b],.E .e (.x 6)⟩) i k m)▸W;have X:=Oq (a:=d) (b:=j++l.drop (l.length-(d.length-j.length))) h (by refine ah ?_ List.length_append.symm;exact List.length_drop.symm▸((Y [] [j.length,d.length,l.length] ⟨[1,3,5,2,4],[.s .b .a,.s .c .d,.s .c .e],[.L .a .b,.L .b (.p .a .c)],.E .b (.p .a .f)⟩) i k));refine fD (show aE ((aE (j.length>(w.map (·.arg)).length)&&I)=I)=ak by refine c▸?_;refine(decide_eq_false (Nat.not_lt.mpr i)).symm▸?_;rfl) ?_;refine fD (show aE ((!((List.take ((w.map (·.arg)).length-(List.drop (((B.getD #[]).toList).length-(w.map (·.arg)).length) ((B.getD #[]).toList)).length) (w.map (·.arg))).filter (λH=>(((w.map (·.arg)).zip j).lookup H).isNone)).isEmpty)=I)=ak by refine M▸?_;refine c▸?_;refine N▸?_;refine List.drop_zero▸?_;refine O▸?_;rfl) ?_;refine af (et (a:=d.zip (j++l.drop (l.length-(d.length-j.length)))) ?_ ?_);·refine M.symm▸?_;refine c.symm▸?_;refine N▸?_;refine List.drop_zero▸?_;exact W
 refine af (et (a:=_) rfl ?_);refine fD rfl ?_;refine au ?_;show r (List.filterMap (λH=>((d.zip _).lookup H).map (H,·)) (w.map (·.arg)++[])) a;rw[cU,c,X];exact s
section
noncomputable def sF(a:List bL)(b:dk):Prop:=∀c∈a,c.scope.kind≠.module/\∃d e,c.frame=Z d/\b.get? d=Z e/\∃f g,e.data=.dict f g
noncomputable def ET:dk:={objs:=#[]}
theorem Ot(a):ET.get? a=D:=ky (bv _)
theorem sF.fun:∀{a:List bL}{b:dk},sF a b->b.FunFrames ET a:=by intro c;induction c with|nil=>intro _ _;exact trivial|cons d a e=>intro b f;refine lA (f d (aw ..)) λg h=>lP h λi j k l m=>mY m λn o p=>?_;exact oz g ⟨i,j,k,Ot i,l,λ_=>uo p⟩ (e λd q=>f d (aq _ q))
theorem sF.k(a:sF b c)(d:e∈lB b):∃f,c.get? e=Z f/\∃g h,f.data=.dict g h:=by refine ll (List.mem_filterMap.mp d) λi j k=>?_;refine lA (a i j) λ_ l=>lP l λm f n o p=>?_;replace k:=n▸k;refine(aa k)▸?_;exact lQ f o p
theorem mU.b(a:mU c e g):sF c g.heap:=λb d=>by refine lA (a b d) λf h=>sY h λi j k l m _=>?_;exact⟨f,i,j,k,l,m⟩
structure rb(FA:List aS)(e:aS)(oe:jb)(Ch:aS->Prop)(h h':dk):Prop where
 l:∀b o,¬Ch b->b∉FA->h.get? b=Z o->h'.get? b=Z o
 q:∀b∈FA,∀o,h.get? b=Z o->∃sl,h'.get? b=Z {o with slots:=sl}ch:∀b,Ch b->∃o vs,h.get? b=Z o/\o.data=.fields vs
 c:∃oe' vs T oT ts,h'.get? e=Z oe'/\oe'.cls=oe.cls/\oe'.dict=oe.dict/\oe'.data=.fields vs/\vs[1]?=Z (.ref T)/\T≠e/\li h<=T/\h'.get? T=Z oT/\oT.data=.fields ts/\ts[3]?=Z .none
theorem EU(a:jb)(b:Array ap->Array ap):(a.mapFields b).dict=a.dict:=by obtain⟨c,d,e,f⟩:=a;induction e<;>rfl
section
variable{i:Model}{h:aN}{j:ap->am->Prop}{b:am}{d:bL}{e:List bL}{c a:aS}{f:jb}{g:Array ap}
theorem EV(k:h.frames=Z (d::e))(l:sF (d::e) b.heap)(m:d.frame=Z c)(n:b.heap.get? a=Z f)(o:f.data=.fields g)(p:1<g.size)(q:∀r,rb (lB (d::e)) a f (λs=>s=a) b.heap r->Q () {b with heap:=r}):az i h (do let t←frameOf d;let u←entryPlaceOf c s;let s←jz v t .none (fX c) .none u;setField (.ref a) 1 s) (λ_ w=>az i h (fU (.ref a) D) Q j w) j b:=by
 have x:a∉lB (d::e):=λy=>by refine ll (l.k y) λz A B=>mY B λC a0 E=>?_;exact zN A E n o
 refine af (wpAny_frameOf_fun k l.fun m λF G=>?_);refine af (wpAny_entryPlaceOf λu H=>?_);delta jz newFields;refine af (gj ?_ (H.sizeOk5 _ _ _ _ _));have J:F.get? a=Z f:=(G.2.1 a x).trans n;have L:=av (h:=F) {cls:=.type "traceback",dict:=D,data:=.fields ([v,.ref c,.none,fX c,.none]++(if u.isEmpty then aO 6 bW else u)).toArray} J;refine fZ L o p ?_;have M:F.objs.size≠a:=dD (bK J);have N:=cQ o (·.setIfInBounds 1 (aQ F.objs.size));have O:=bQ (bT (·.setIfInBounds 1 (aQ F.objs.size))) L (eB N);have P:=(bG (F.push {cls:=.type "traceback",dict:=D,data:=.fields ([v,.ref c,.none,fX c,.none]++(if u.isEmpty then aO 6 bW else u)).toArray}) (bT (·.setIfInBounds 1 (aQ F.objs.size))) (dT M)).trans (aU F rfl);delta fU;dsimp only;refine af (dK O N (x:=.ref F.objs.size) (by simp[p]) ?_);refine(if_pos (show(aQ F.objs.size !=bW)=I from by rfl))▸?_;refine fZ P rfl (by simp only[aR,aW,bE,i7]<;>exact Y [] [(if u.isEmpty=I then aO 6 bW else u).length] ⟨[1],[],[],.T (.k 3) (.p (.p (.p (.p (.p (.p .o .u) .u) .u) .u) .u) .a)⟩) (q _ ?_);have R:∀s z,s≠a->F.get? s=Z z->(((F.push {cls:=.type "traceback",dict:=D,data:=.fields ([v,.ref c,.none,fX c,.none]++(if u.isEmpty then aO 6 bW else u)).toArray}).update a (bT (·.setIfInBounds 1 (aQ F.objs.size)))).update F.objs.size (bT (·.setIfInBounds 3 ((D:Option aS).elim bW λS=>fX S)))).get? s=Z z:=λs z T U=>by refine ah (bG _ _ (dD (bK U):F.objs.size≠s)) ?_;refine ah (bG _ _ (dT T)) ?_;exact av _ U
 refine⟨λs z U V A=>R s z U ((G.2.1 s V).trans A),λs U z A=>?_,λs U=>⟨f,g,U▸n,o⟩,?_⟩;·refine lp (G.2.2 s z A) λW X=>?_;exact⟨W,R s _ (λy=>x (y▸U)) X⟩
 ·refine⟨_,_,F.objs.size,_,_,?_,Obj.cls_mapFields _ _,EU _ _,N,by simp[p],M,by refine G.1▸?_;exact al _,bQ _ P (eB (cQ rfl _)),cQ rfl _,by first|(simp;done)|(rcases H with rfl|⟨_,_,_,_,_,_,_,rfl⟩<;>simp)⟩;refine ah (bG _ _ M) ?_;exact O
theorem Ou(k:h.frames=Z (d::e))(l:sF (d::e) b.heap)(m:d.frame=Z c)(n:b.heap.get? a=Z f)(o:f.data=.fields g)(p:g[1]?=Z .none\/∃q r s,g[1]?=Z (.ref q)/\q≠a/\b.heap.get? q=Z r/\r.data=.fields s/\s[3]?=Z .none)(t:∀u,rb (lB (d::e)) a f (λv=>v=a\/g[1]?=Z (.ref v)) b.heap u->Q () {b with heap:=u}):az i h (jy (.ref a) d) (λ_ w=>az i h (fU (.ref a) D) Q j w) j b:=by
 delta jy;dsimp only;simp only[m];refine aB p (λx=>?_) (λy=>BU y λq r s x z A B C=>?_)
 ·refine af (dK n o x ?_);refine EV k l m n o (Array.getElem?_eq_some_iff.mp x).1 λu E=>t u ⟨λv F G=>E.l v F λH=>G (.inl H),E.q,λv G=>?_,E.c⟩;refine aB G (λG=>?_) (λG=>?_);·exact E.ch v G
  ·replace G:=x▸G;cases G
 ·refine af (dK n o x ?_);refine af (dK A B C ?_);refine(if_neg (show¬((bW==fX c)=I)from by simp[fX]))▸?_;refine af (fZ A B (Array.getElem?_eq_some_iff.mp C).1 ?_);have J:∀v,v≠q->(b.heap.update q (bT (·.setIfInBounds 3 bW))).get? v=b.heap.get? v:=λv G=>bG _ _ (dT G);have L:∀v∈lB (d::e),v≠q:=λv G H=>by refine ll (l.k G) λF M y=>mY y λa0 a3 N=>?_;exact zN (H▸M) N A B
  have O:sF (d::e) (b.heap.update q (bT (·.setIfInBounds 3 bW))):=λP R=>by refine lA (l P R) λS y=>lP y λc F T U V=>?_;exact⟨S,c,F,T,(J c (L c (List.mem_filterMap.mpr ⟨P,R,T⟩))).trans U,V⟩
  refine EV k O m ((J a (dT z)).trans n) o (Array.getElem?_eq_some_iff.mp x).1 λu E=>t u ⟨λv F G W M=>E.l v F (λH=>G (.inl H)) W ((J v λH=>G (.inr (H▸x))).trans M),λv G F M=>E.q v G F ((J v (L v G)).trans M),λv G=>?_,?_⟩
  ·rcases G with G|G;·exact r_ f g (G▸n) o
   ·replace G:=x▸G;cases G;exact r_ r s A B
  ·refine H8 E.c λX a4 a5 a6 a7 T U V a8 a9 b0 b1 b2=>?_;refine⟨X,a4,a5,a6,a7,T,U,V,a8,a9,b0,?_,b2⟩;have:li (b.heap.update q (bT (·.setIfInBounds 3 bW)))=li b.heap:=cL ..;exact this▸b1
end
end
section
section
variable{f:Gd}{k:List bL}{b:Wd}{S:MS}{a:am}{FA:List aS}{c:aS}{l:jb}{n:aS->Prop}{e:dk}
theorem rb.hs(d:rb FA c l n a.heap e)(g:HS f b S a)(h:∀t,n t->t∉b.as/\b.φ t=D)(i:∀t∈FA,t∉b.as/\b.φ t=D):HS f b S {a with heap:=e}where l:=g.l;j:=λj k m=>d.l j k (λo=>by have:=(h j o).2;rw[m]at this;exact nn this.symm) (λo=>by have:=(i j o).2;rw[m]at this;exact nn this.symm) (g.j j k m);b:=g.b;u:=g.u;e:=g.e;q:=g.q;k:=λp q j r s=>MR.k (b.a) (λk u=>d.l j k (λo=>(h j o).1 (aH s)) (λo=>(i j o).1 (aH s)) u) (g.k p q j r s)
noncomputable def vY(FA:List aS)(a e:dk):Prop:=(∀b c,a.get? b=Z c->(∀d,c.data≠.fields d)->b∉FA->e.get? b=Z c)/\∀b∈FA,∀c,a.get? b=Z c->∃f,e.get? b=Z {c with slots:=f}
theorem rb.h(a:rb FA c l n t e):vY FA t e:=⟨λb d f g h=>a.l b d (λi=>by refine mB (a.ch b i) λj k m o=>?_;rw[f]at m;obtain rfl:=aa m;exact g k o) h f,a.q⟩
theorem rb.i(a:rb FA c l n t e):li t<=li e:=by refine H9 a.c λ_ _ b d f _ _ _ _ _ _ g h _=>?_;exact ao g (bB (nJ h))
theorem rb.d(d:rb FA c l n a.heap e)(f:∀t,n t->j<=t)(g:u<v):Gr FA j b ⟨S.σ,u⟩ a b ⟨S.σ,v⟩ {a with heap:=e}where b:=λ_ _ c=>c;u:=λ_ _ c=>.inl c;x:=bD _;v:=λ_ h=>.inl h;l:=λi k _ m o p=>d.l i k (λq=>aZ _ (aF o (f i q))) m p;q:=d.q;z:=λq=>absurd (show v=u from q) (dD g);mu:=bB g;i:=d.i;y:=⟨e,a.toks,rfl⟩
variable{q:Model}{o:aN}{r:ap->am->Prop}{g:bL}{p:XC}{m:ap}{j:Nat}{s:aS}
theorem EW(d:o.frames=Z (g::k))(h:g.frame=Z s)(i:HS f b S a)(n:mU (g::k) b a)(t:XR f j b p m a)(u:j<=li a.heap)(v:∀e,(∀w x,w<x->Gr (lB (g::k)) j b ⟨S.σ,w⟩ a b ⟨S.σ,x⟩ {a with heap:=e})->HS f b S {a with heap:=e}->XR f j b p m {a with heap:=e}->vY (lB (g::k)) a.heap e->Q () {a with heap:=e}):az q o (jy m g) (λ_ a0=>az q o (fU m D) Q r a0) r a:=by
 obtain⟨c,l,y,rfl,z,a3,a4,a5,A,B,C,a6⟩:=t;have a7:∀E∈lB (g::k),E∉b.as/\b.φ E=D:=λE F=>by refine r9 (n.at F) λa8 _ _ G H=>?_;exact⟨H,G⟩
 refine Ou (g:=y) d n.b h a3 a5 (A.imp id λa9=>Ih a9 λJ L M N O P R T U _ _=>BZ J L M N O R T U) λe V=>?_;have W:∀E,(E=c\/y[1]?=Z (.ref E))->E∉b.as/\b.φ E=D/\j<=E:=λE F=>by
  refine aB F (λb0=>?_) (λF=>?_);·exact b0▸oz C B z
  ·rcases A with A|⟨J,L,M,N,O,P,R,T,U,b1,b2⟩;·exact Value.noConfusion (aa (A.symm.trans F))
   ·exact(fe (aa (N.symm.trans F)))▸oz b2 b1 P
 refine v e (λw x b3=>V.d (λE F=>(W E F).2.2) b3) (V.hs i (λE F=>⟨(W E F).1,(W E F).2.1⟩) a7) ?_ V.h;refine gz λb4 b5=>?_;obtain⟨b6,c1,J,L,M,G,H,c2,c3,c4,c5,X,c6,d0,d1⟩:=V.c;refine b5 ?_;refine⟨c,b6,c1,rfl,z,G,H.trans a4,c3,.inr ⟨J,L,M,c4,c5,ao u X,c6,d0,d1,i.i X,i.r X⟩,B,C,λd2=>?_⟩;refine H4 (a6 d2) λd3 d4 d5 d6 d7 d8=>?_;exact Ib d3 d4 d5 d6 (c2.trans d7) d8
theorem Ov(d:HS f b S a)(a0:mU (g::k) b a)(a3:XR f j b p m a)(h:∀e,(∀i t,i<t->Gr (lB (g::k)) j b ⟨S.σ,i⟩ a b ⟨S.σ,t⟩ {a with heap:=e})->HS f b S {a with heap:=e}->XR f j b p m {a with heap:=e}->vY (lB (g::k)) a.heap e->Q () {a with heap:=e}):az q o (fU m D) Q r a:=by
 obtain⟨c,l,n,rfl,s,u,v,w,x,y,z,A⟩:=a3;rcases x with x|⟨B,a4,a5,C,E,F,G,H,a6,J,L⟩;·refine af (dK u w x ?_);refine au (h a.heap (λi t M=>?_) d ⟨c,l,n,rfl,s,u,v,w,.inl x,y,z,A⟩ ⟨λN O P _ _=>P,λN _ O P=>⟨O.slots,P⟩⟩);exact⟨λ_ _ c=>c,λ_ _ c=>.inl c,bD _,λ_ h=>.inl h,λ_ _ _ _ _ c=>c,λ_ _ O c=>⟨O.slots,c⟩,λR=>absurd (show t=i from R) (dD M),bB M,al _,⟨a.heap,a.toks,rfl⟩⟩
 ·refine af (dK u w C ?_);refine(if_pos (show(aQ B !=bW)=I from by rfl))▸?_;have T:=(Array.getElem?_eq_some_iff.mp a6).1;refine fZ G H T ?_;have U:∀N,N≠B->(a.heap.update B (bT (·.setIfInBounds 3 bW))).get? N=a.heap.get? N:=λN V=>bG _ _ (dT V);have W:∀N∈lB (g::k),N≠B:=λN V R=>by refine mQ (a0.at V) λO u a7 _=>mY a7 λa8 a9 b0=>?_;exact zN (R▸u) b0 G H
  have b1:HS f b S {a with heap:=a.heap.update B (bT (·.setIfInBounds 3 bW))}:=by
   refine⟨d.l,λX O P=>(U X λR=>?_).trans (d.j X O P),d.b,d.u,d.e,d.q,λb2 b3 X b4 b5=>MR.k (b.a) (λO u=>(U X λR=>?_).trans u) (d.k b2 b3 X b4 b5)⟩;·exact nn (J▸R▸P)
   ·exact L (R▸aH b5)
  refine h _ (λi t M=>?_) b1 ⟨c,l,n,rfl,s,(U c (dT E)).trans u,v,w,.inr ⟨B,_,_,C,E,F,bQ _ G (eB (cQ H _)),cQ H _,?_,J,L⟩,y,z,A⟩ ⟨λN O P b6 _=>(U N λR=>by rw[R,G]at P;obtain rfl:=aa P;exact b6 _ H).trans P,λN V O P=>⟨O.slots,(U N (W N V)).trans P⟩⟩;·exact⟨λ_ _ c=>c,λ_ _ c=>.inl c,bD _,λ_ h=>.inl h,λX O _ _ c1 P=>(U X λR=>aZ _ (aF (R▸c1) F)).trans P,λX c2 O P=>⟨O.slots,(U X (W X c2)).trans P⟩,λR=>absurd (show t=i from R) (dD M),bB M,bV (cL ..:li (a.heap.update B (bT (·.setIfInBounds 3 bW)))=li a.heap).symm,⟨_,a.toks,rfl⟩⟩
  ·simp[T]
end
end
section
set_option backward.match.sparseCases true
theorem EY:∀(a:List (aX×b8))(b:Nat)(c:List (aX×aS))(d:aX),((c.lookup d).isSome=I\/(d,ck)∈a)->((cT b a c).lookup d).isSome=I:=by
 intro e;induction e with
 |nil=>
  intro b c d f;refine aB f (λf=>?_) (λf=>?_);·exact f
  ·cases f|cons g h i=>
  obtain⟨j,k⟩:=g;intro b c d f;rw[xD];split
  ·rename_i l;refine i _ _ d ?_;refine aB f (λf=>?_) (λf=>?_);·refine .inl ?_;refine ah (congrArg _ be) ?_;split<;>first|rfl|exact f
   ·refine aB (List.mem_cons.mp f) (λm=>?_) (λm=>?_);·refine lA (ey m) λn o=>?_;subst n;induction o;left;simp[be]
    ·exact .inr m
  ·rename_i l;refine i _ _ d (f.imp id λf=>?_);refine aB (List.mem_cons.mp f) (λm=>?_) (λm=>?_);·refine lA (ey m) λn o=>?_;subst n;induction o;exact absurd rfl l
   ·exact m
section
variable{a:aX->Option b8}
theorem Ow:∀(b:List (aX×ap))(c:aX->Option ap)(d:aX),d∉b.map (·.1)->bindL a b c d=c d:=by
 intro e
 induction e with|nil=>
  intro c d _;exact rfl|cons f b g=>
  obtain⟨h,i⟩:=f;intro c d j;refine ah (g _ d λk=>j (aq _ k)) ?_;split;·exact if_neg (λl=>j (by exact l▸(aw ..)))
  ·rfl
theorem Ox:∀(b:List (aX×ap))(c:aX->Option ap)(d:aX),d∉b.map (·.1)->bindC a b c d=c d:=by
 intro e
 induction e with|nil=>
  intro c d _;exact rfl|cons f b g=>
  obtain⟨h,i⟩:=f;intro c d j;refine ah (g _ d λk=>j (aq _ k)) ?_;split;·rfl
  ·exact if_neg (λl=>j (by exact l▸(aw ..)))
theorem EZ{b:List aX}{c:List ap}(a:d∈(b.zip c).map (·.1)):d∈b:=by refine ll (List.mem_map.mp a) λe f g=>?_;refine g▸?_;exact(i8 f).1
theorem E0:∀{b:List aX}{c:List ap}{d:aX->Option ap}{e:Nat}{f:aX}{g:ap},b.Nodup->b[e]?=Z f->c[e]?=Z g->a f=Z .local->bindL a (b.zip c) d f=Z g:=by intro h;induction h with|nil=>intro _ _ _ _ _ _ i _ _;simp at i|cons j b k=>intro l;induction l with|nil=>intro _ _ _ _ _ _ i _;simp at i|cons m c=>intro d n;induction n with|zero=>intro f g o p q r;simp at p q;subst p;subst q;refine cv▸?_;rw[MW];refine ah (Ow _ _ _ λs=>(List.nodup_cons.mp o).1 (EZ s)) ?_;rw[if_pos r];exact if_pos rfl|succ e=>intro f g o p q r;exact k (List.nodup_cons.mp o).2 (by simpa using p) (by simpa using q) r
theorem Oy:∀{b:List aX}{c:List ap}{d:aX->Option ap}{e:Nat}{f:aX}{g:ap},b.Nodup->b[e]?=Z f->c[e]?=Z g->a f≠Z .local->bindC a (b.zip c) d f=Z g:=by intro h;induction h with|nil=>intro _ _ _ _ _ _ i _ _;simp at i|cons j b k=>intro l;induction l with|nil=>intro _ _ _ _ _ _ i _;simp at i|cons m c=>intro d n;induction n with|zero=>intro f g o p q r;simp at p q;subst p;subst q;refine cv▸?_;rw[MX];refine ah (Ox _ _ _ λs=>(List.nodup_cons.mp o).1 (EZ s)) ?_;rw[if_neg r];exact if_pos rfl|succ e=>intro f g o p q r;exact k (List.nodup_cons.mp o).2 (by simpa using p) (by simpa using q) r
end
theorem lx.drop(i)(a:lx j o p):lx j (o.drop i) (p.drop i):=a.drop' i
noncomputable def vZ(a:List Nat)(b:List V):Ro:=(a.zip b).map λc=>(c.1,.a c.2)
theorem AG:∀{a:List Nat}{b:List V}{c:Nat}{d:LV},kZ c (vZ a b)=Z d->∃(e:V)(f:Nat),d=.a e/\a[f]?=Z c/\b[f]?=Z e:=by
 intro a;induction a with|nil=>exactλg=>nn g|cons h a i=>
  intro b;induction b with|nil=>exactλg=>nn g|cons e b=>
   intro c d g;by_cases j:h=c;·exact mh e 0 (aa (g.symm.trans (zV j))) (congrArg Z j) rfl
   ·exact lP (i ((CS j).symm.trans g)) λk f l m n=>mh k (f+1) l m n
theorem Oz{a b:Type}{c:a->Option b}:∀{d:List a}{e:List b}{f:Nat}{g:b},lL c d=Z e->e[f]?=Z g->∃h,d[f]?=Z h/\c h=Z g:=by intro i;induction i with|nil=>intro e f g j k;rw[oh j]at k;simp at k|cons h d l=>intro e f g j k;refine lP (nB j) λm n o p q=>?_;subst q;induction f with|zero=>simp at k;subst k;exact lQ h rfl o|succ f=>simpa using l p (by simpa using k)
noncomputable def sG(a:Gd)(b:dW)(c:List ap):Prop:=(b.defaults=.none/\c=[])\/∃d e f,b.defaults=.ref d/\a.K.lookup d=Z e/\e.data=.seq c.toArray f
structure xI(G:Gd)(f:Nat)(fn:Fn)(o:jb)(fd:dW)(cc:CC)(body:List fq)(names:List aX)(dvs:List ap):Prop where
 kZ:G.K.lookup f=Z o
 k:o.data=.func fd
 code:codeIn G.K fd.code fd.qualname=I
 bd:fd.body=.stmts body
 c:fd.closure=[]pos:fd.params.posonlyargs=[]h:fd.params.args.map (·.arg)=names
 i:fd.params.kwonlyargs=[]b:fd.params.vararg=D
 kw:fd.params.kwarg=D
 d:names.Nodup
 sc:cc.sc=fd.scope.names
 C:nh G cc
 l:lL cc.id names=Z fn.a
 lc:mK 60 cc body=Z fn.c
 j:sG G fd dvs
 n:∀W,lx W dvs fn.b
 m:dvs.length<=names.length
 co:fd.scope.isCoroutine=ak
 gen:fd.scope.isGenerator=ak
 a:fd.scope.kind=.function
 e:fd.globals=b7
 bi:fd.builtins=eM
 g:∀x∈names,nU (fd.scope.names.lookup x)=I
 free:∀p∈fd.scope.names,p.2≠.free
section
variable{c:eT}{d:iF}{b:aN}{a:am}
theorem E1{e:ek->am->Prop}{f}(g:b.depth<recursionLimit)(h:a.heap.get? i=Z j)(k:j.data=.func fd)(l:a.heap.NoLimit)(m:a.heap.CodeRec fd.code fd.qualname)(n:fd.body=.stmts o)(p:BindsTo a fd q f)(r:fd.closure=[])(s:∀t∈f,fd.scope.names.lookup t.1=Z .local\/(fd.scope.names.lookup t.1=Z .cell/\((cT (a.heap.objs.size+1) fd.scope.names []).lookup t.1).isSome=I))(u:fd.scope.isCoroutine=ak)(v:fd.scope.isGenerator=ak)(w:fd.scope.kind=.function)(x:∀y,InCallC a (bn fd a.heap.objs.size i).locals (bindL (bn fd a.heap.objs.size i).kindOf f λ_=>D) (bn fd a.heap.objs.size i).cells (bindC (bn fd a.heap.objs.size i).kindOf f λ_=>D) y->az (aC c d) (b.deeper (bn fd a.heap.objs.size i)) (ig o (bn fd a.heap.objs.size i)) (λz A=>e (.ok (.ret (match z with|.ret B=>B|_=>.none))) A) (λC A=>az (aC c d) (b.deeper (bn fd a.heap.objs.size i)) (leaving (bn fd a.heap.objs.size i) C) (λ_ E=>e (.error C) E) (λF E=>e (.error F) E) A) y):dY (aC c d) b (.call (.ref i) q) e a:=by refine codeAny_call_function g h k u v n m (p _ _ _ _ ?_);refine r▸?_;refine wpAny_newFunctionEnv_cells w s λG H A t=>?_;subst H;exact n0 (l.keeps t.toInCall.keep) (codeAny_func (x A t))
end
section
variable{d:Gd}{g:List bL}{f:aN}{b j:Wd}{c i:MS}{a k:am}{e:PT}{h:Nat}
theorem OA{l}{m}{n}(e:xI d l o p fd q a0 m n){r}{s}(a3:lx b r s)(a4:r.length=m.length)(h:HS d b c a)(i:mU g b a){t}(u:InCallC a (bn fd a.heap.objs.size l).locals (bindL (bn fd a.heap.objs.size l).kindOf (m.zip r) λ_=>D) (bn fd a.heap.objs.size l).cells (bindC (bn fd a.heap.objs.size l).kindOf (m.zip r) λ_=>D) t):Gr (lB g) (li a.heap) b c a b c t/\FS d g q (bn fd a.heap.objs.size l) (li a.heap) (vZ o.a s) b c t/\(f.frames=Z g->f.handled=D->Ev (bn fd a.heap.objs.size l::g) (f.deeper (bn fd a.heap.objs.size l)) (bn fd a.heap.objs.size l) q)/\Fv d q (bn fd a.heap.objs.size l) (λu=>nU (q.sc.lookup u)=I) (li a.heap) (lB g):=by
 have j:∀k v,(bn fd a.heap.objs.size l).cells.lookup k=Z v->li a.heap<v:=λk v w=>u.above k v (mem_of_lookup w);have x:∀k,fd.scope.names.lookup k=Z .cell->∃v,(bn fd a.heap.objs.size l).cells.lookup k=Z v:=λk w=>by have:((cT (a.heap.objs.size+1) fd.scope.names []).lookup k).isSome=I:=EY _ _ _ _ (.inr (mem_of_lookup w));refine lp (Option.isSome_iff_exists.mp this) λv y=>?_;exact mf v y
 have z:∀k A v,(bn fd a.heap.objs.size l).cells.lookup k=Z v->(bn fd a.heap.objs.size l).cells.lookup A=Z v->k=A:=λk A v B C=>name_of_addr u.apart (mem_of_lookup B) (mem_of_lookup C);have E:∀k,(bn fd a.heap.objs.size l).kindOf k=fd.scope.names.lookup k:=λ_=>rfl;refine mY u.toInCall.same λF G H=>?_;subst H;have J:=u.toInCall.ns;have L:=u.toInCall.keep;have M:Gr (lB g) (li a.heap) b c a b c {a with heap:=F,toks:=G}:=Gr.h L (bB (rO J):li a.heap<=li F);have a5:HS d b c {a with heap:=F,toks:=G}:=h.h L;have a6:mU g b {a with heap:=F,toks:=G}:=i.d M λa7 a8=>i.lt a8;have N:Cl b (bn fd a.heap.objs.size l) {a with heap:=F,toks:=G}:=λk v w=>⟨h.r (bB (j k v w)),h.i (bB (j k v w)),_,u.cell k v w⟩;have O:∀k P,q.id k=Z P->d.nm P=k:=e.C.d;refine oK M ⟨λ_=>0,⟨a5,λw Q=>?_,λk P a9 b0 R=>?_,N⟩,⟨⟨_,J⟩,h.r (al _),h.i (al _),N⟩,λP b1 _ w=>?_,λP S b1 b2 _ _ w _=>?_⟩ (λb3 b4=>?_) ?_
 ·refine aB (List.mem_cons.mp Q) (λH=>?_) (λQ=>?_)
  ·refine H▸?_;refine⟨?_,?_⟩;·refine e.a▸?_;decide
   ·refine gz λb5 T=>?_;obtain⟨p,b6,c1,c2,R,_⟩:=J;refine T ?_;exact BX (li a.heap) p rfl c2 ⟨b6,c1,R⟩ (h.i (al _)) (h.r (al _))
  ·exact a6 w Q
 ·refine lP (AG R) λU S w B C=>?_;cases w;refine gz λb5 T=>?_;refine ll (Oz e.l B) λA V c3=>?_;have:k=A:=by refine(O _ _ c3)▸?_;exact(O _ _ (CC.k b0))▸rfl
  subst this;refine ll (a3.d C) λc4 W c5=>?_;refine T ?_;refine lQ c4 c5 ?_;exact aB (vT (e.g k (aH V))) (λX=>.inl ⟨(E k).trans X,h.r (al _),_,J,E0 e.d V W ((E k).trans X)⟩) λX=>lp (x k X) λv y=>.inr ⟨.inl ((E k).trans X),v,h.r (bB (j k v y)),y,(Oy (a:=(bn fd a.heap.objs.size l).kindOf) e.d V W (λA=>absurd (X.symm.trans A:Z ck=Z NameKind.local) (by decide)))▸u.cell k v y⟩
 ·exact mB (AG w) λU S w _=>LV.noConfusion w
 ·exact mB (AG w) λU S w _=>LV.noConfusion w
 ·refine⟨e.a,λk w=>?_,λk w=>?_,z,e.e,e.bi,b4,?_⟩;·rw[e.sc]at w;exact w
  ·rw[e.sc]at w;rcases w with w|w;·exact⟨.inl w,x k w⟩
   ·exact absurd rfl (e.free _ (mem_of_lookup w))
  ·show f.frames.map _=_;refine ah (congrArg _ b3) ?_;rfl
 ·refine⟨e.a,O,λk w=>?_,λk w=>x k w,z,λk w=>?_,λk w X=>?_⟩;·exact vT (e.sc▸w:nU (fd.scope.names.lookup k)=I)
  ·exact aB (vT (e.sc▸w:nU (fd.scope.names.lookup k)=I)) (λX=>(Az (d:=bn fd a.heap.objs.size l) X).symm▸al _) λX=>lp (x k X) λv y=>(AA (d:=bn fd a.heap.objs.size l) X y).symm▸bB (j k v y)
  ·exact aB (vT (e.sc▸w:nU (fd.scope.names.lookup k)=I)) (λA=>aZ _ ((Az (d:=bn fd a.heap.objs.size l) A)▸i.lt X)) λA=>lp (x k A) λv y=>aZ _ (gk (j k v y) ((AA (d:=bn fd a.heap.objs.size l) A y)▸i.lt X))
theorem sG.at(f:sG d fd l)(g:HS d b c a):AF a fd l:=by
 rcases f with f|⟨e,i,h,j,k,m⟩;·exact .inl f
 ·exact .inr ⟨e,i,h,j,g.K _ _ k,m⟩
theorem OB{a}(b:um e a l m c≠.b):∃n,e.fn l=Z n/\m.length<=n.a.length/\(oA n.a.length m n.b).length=n.a.length/\um e a l m c=o5 (lH a n.c (vZ n.a (oA n.a.length m n.b)) c):=by unfold um at b⊢;cases d:e.fn l with|none=>replace b:=d▸b;exact absurd rfl b|some n=>replace b:=d▸b;dsimp only at b⊢;cases f:m.length.ble n.a.length&&(oA n.a.length m n.b).length.beq n.a.length with|false=>replace b:=f▸b;exact absurd rfl b|true=>have g:=Bool.and_eq_true_iff.mp f;exact tY n rfl (km g.1) (cm g.2) rfl
theorem OC(l:∀m n,e.fn m=Z n->∃o p q r s t,xI d m n o p q r s t)(u:p7 d e h):rP d e (h+1):=by
 intro m v w f g b c a x y z A B C a0 E;refine r9 (OB E) λn F a3 G H=>?_;have H:(kX e (h+1)).l m w c=_:=H;rw[H]at E⊢;refine gz λa4 a5=>?_;obtain⟨o,p,q,r,s,t,J⟩:=l m n F;refine a5 ?_;have L:=xm J.l;have M:=x.a;have N:=(J.n b).a;have O:lx b (v++t.drop (t.length-(s.length-v.length))) (oA n.a.length w n.b):=by unfold oA;refine N▸?_;refine L▸?_;refine M▸?_;exact x.f ((J.n b).drop _)
 have a6:∀P∈s.zip (v++t.drop (t.length-(s.length-v.length))),p.scope.names.lookup P.1=Z .local\/(p.scope.names.lookup P.1=Z .cell/\((cT (a.heap.objs.size+1) p.scope.names []).lookup P.1).isSome=I):=λP a7=>by
  have Q:=J.g P.1 (i8 a7).1;cases F:p.scope.names.lookup P.1 with|none=>replace Q:=F▸Q;cases Q|some a8=>
   rw[F]at Q;induction a8<;>first|(cases Q;done)|skip
   ·exact .inl rfl
   ·exact .inr ⟨rfl,EY _ _ _ _ (.inr (mem_of_lookup F))⟩
 refine E1 ((Y [] [f.depth,h] ⟨[2,1],[],[.L (.p .a (.p .b .u)) (.k 990)],.T .a (.k 1000)⟩) A) (C.K _ _ J.kZ) J.k (d.b.keeps C.v) (codeRec_of C.K J.code) J.bd (ES J.pos J.h J.i J.b J.kw J.d ((Y [] [w.length,n.a.length,s.length,v.length] ⟨[1,2,3],[],[.L .a .b,.E .c .b,.E .d .a],.L .d .c⟩) a3 L M) ((Y [] [(oA n.a.length w n.b).length,n.a.length,s.length,v.length,w.length,t.length,n.b.length] ⟨[1,2,3,4,6,7,8,9],[.s .b .e,.s (.x 6) (.x 7),.s (.x 6) (.x 8)],[.E .a .b,.E .c .b,.E .d .e,.E .f (.x 6),.E .a (.p .e (.x 9))],.L .c (.p .d .f)⟩) G L M N (by refine ah aW ?_;rw[List.length_drop]:(oA n.a.length w n.b).length=w.length+(n.b.length-(n.b.length-(n.a.length-w.length))))) J.m (J.j.at C)) J.c a6 J.co J.gen J.a λa9 P=>?_;refine nk (OA (f:=f) J O ((Y [] [(oA n.a.length w n.b).length,n.a.length,s.length,(v++List.drop (t.length-(s.length-v.length)) t).length] ⟨[1,2,3],[],[.E .a .b,.E .c .b,.E .d .a],.E .d .c⟩) G L (O.a)) C a0 P) λR b0 b1 b2=>?_;refine aK ((tx (b:=c) (g:=a9) (d:=vZ n.a (oA n.a.length w n.b)) (f:=b) u J.C (b1 z y) b2 rfl (al _) ((Y [] [f.depth,h] ⟨[1],[],[.L (.p .a (.p .b .u)) (.k 990)],.L (.p (.p .a .u) .b) (.k 990)⟩) A) ((Y [] [f.units,h] ⟨[1],[],[.L (.p .a (.m 8 (.p .b .u))) (.k 9000)],.L (.p (.p .a (.k 3)) (.m 8 .b)) (.k 9000)⟩) B) J.lc b0) (λS=>E (by refine S.symm▸?_;rfl):lH (kX e h) n.c (vZ n.a (oA n.a.length w n.b)) c≠.b)) (λb3 k S=>?_) λb4 k S=>?_
 ·obtain⟨b5,b6,i,j,T,U,V,W⟩:=S;rw[T]at E⊢;induction b3<;>induction b6<;>first|exact W.elim|skip
  ·exact⟨_,i,j,rfl,R.j U.g (al _),V.at.H,.g⟩
  ·exact absurd rfl E
  ·exact⟨_,i,j,rfl,R.j U.g (al _),V.at.H,W⟩
 ·obtain⟨b5,c1,i,j,T,U,V,c2⟩:=S;refine af (EW (by refine(ah (congrArg _ z) ?_:f.frames.map _=_);rfl) rfl V.at.H V.at.K (c2.r R.i) (ao R.i U.g.i) λc3 c4 c5 c6 _=>?_);refine T▸?_;refine⟨c1,⟨i.σ,i.mu+1⟩,j,rfl,?_,c5.w _,c6⟩;refine(R.j U.g (al _)).j ((c4 (i.mu+1) (i.mu+1+1) (gd _)).r (al _) (λU X=>aq _ X) λU X=>?_) (al _);refine aB (List.mem_cons.mp X) (λX=>?_) (λX=>?_);·exact .inr (X▸al _)
  ·exact .inl X
end
end
section
noncomputable abbrev pC(a b:aS):jb:={cls:=.ref a,data:=.fields #[.ref b,.none,.none,.none,.bool ak,.none]}
noncomputable abbrev on(a:List ap):jb:={cls:=.type "tuple",data:=.seq a.toArray}
section
variable{j:eT}{k:iF}{l:aN}{m:ap->am->Prop}{b:dk}{e:Array GenState}{f:Drawn}{g:Nat}{h:OsState}
variable{n o:aX}{a p:aS}{q c r:List ap}{s:Bool}{t:List aX}{u:List ap}{v:Bool}{w:Option Bool}{x:Option aS}{y z A B C:Option ap}{i d E:String}
theorem OD(j:fO i d E r){k}(F:(aQ a::c).contains (.type i)=I)(G:b.get? a=Z (dI n o a p q c s t u v w x y z A B C d))(H:Q () ⟨b,e,f,g,h⟩):az k l (jA d ⟨.ref a::J,[]⟩) Q m ⟨b,e,f,g,h⟩:=by exact wpAny_check_new_subU j (by exact F) .base G H
theorem OE(m:fO i d E r){F:ek->am->Prop}(G:(aQ a::c).contains (.type i)=I)(H:(aQ a::c).contains (.type "AttributeError")=ak)(J:(aQ a::c).contains (.type "NameError")=ak)(L:b.get? a=Z (dI n o a p q c s t u v w x y z A B C d))(M:F (.ok (.ret (.ref (b.objs.size+1)))) ⟨(b.push (on N)).push (pC a b.objs.size),e,f,g,h⟩)(O:N.length<=cB):dY (aC j k) l (.builtin d ⟨.ref a::N,[]⟩) F ⟨b,e,f,g,h⟩:=by
 have P:=m.ends;refine codeAny_builtinAt m.entry ?_;refine PySem.wpAt_bind ?_;refine(PySem.wpAt_bind (PySem.wpAt_stack λQ R=>kz ?_):PySem.wpAt _ _ _ (stack>>=_) _ _ _);wp_walk;refine kz ?_;refine m.owner▸?_;repeat(first|with_reducible refine wpAny_madeHere_exc m.canon L ?_|with_reducible refine bU L ?_|(with_reducible refine dj L ?_;first|rw[G]|rw[H]|refine J.symm▸?_)|wp_step)
 show F _ _;rw[aV];exact M
theorem OF(F:fO i d E r){G}(H:(aQ a::c).contains (.type i)=I)(J:(aQ a::c).contains (.type "AttributeError")=ak)(L:(aQ a::c).contains (.type "NameError")=ak)(M:b.get? a=Z (dI n o a p q c s t u v w x y z A B C d))(N:j3 (aC j k) b (typeLookup (.ref a) "__init__") (Z (.ref O)))(P:b.get? O=Z S)(R:S.cls=.type "function")(a0:G.length<=cB)(a3:az (aC j k) l (bI (.ref O) (.ref (b.objs.size+1)::G)) (λT U=>T=.none/\Q (.done (.ret (.ref (b.objs.size+1)))) U) m ⟨(b.push (on G)).push (pC a b.objs.size),e,f,g,h⟩):az (aC j k) l (Builtin.«type.__call__» ⟨.ref a::G,[]⟩) Q m ⟨b,e,f,g,h⟩:=by
 repeat(first|with_reducible refine bU M ?_|with_reducible refine wpAny_madeBy_exc M ?_|wp_step)
 refine codeAny_call_builtin_code (kU _ F.quiet) (OD F H M ?_);refine OE F H J L M ?_ a0;have V:∀W X,b.get? W=Z X->((b.push (on G)).push (pC a b.objs.size)).get? W=Z X:=λW X a4=>av _ (av _ a4);have a5:((b.push (on G)).push (pC a b.objs.size)).get? (b.objs.size+1)=Z (pC a b.objs.size):=by heap_get
 repeat(first|(with_reducible refine bU a5 ?_)|(with_reducible refine dj (V _ _ M) ?_;refine((by simp:(aQ a::c).contains (.ref a)=I)).symm▸?_)|wp_step)
 refine(N.keeps V).here ?_;refine aT (af ?_);refine af (wpAny_typeOf (T:="function") ⟨_,(V _ _ P),R⟩ ?_);refine au (af (aK a3 (λT U a6=>?_) λ_ _ a7=>a7));obtain⟨rfl,a8⟩:=a6;wp_walk;exact a8
theorem OG(F:fO i d E r)(G:(aQ a::c).contains (.type i)=I)(H:(aQ a::c).contains (.type "AttributeError")=ak)(J:(aQ a::c).contains (.type "NameError")=ak)(L:b.get? a=Z (dI n o a p q c s t u v w x y z A B C d))(M:j3 (aC j k) b (typeLookup (.ref a) "__init__") (Z (.ref N)))(O:b.get? N=Z P)(R:P.cls=.type "function")(S:T.length<=cB)(U:az (aC j k) (l.under (.builtin "type.__call__" ⟨.ref a::T,[]⟩)) (bI (.ref N) (.ref (b.objs.size+1)::T)) (λW X=>W=.none/\Q (.ref (b.objs.size+1)) X) m ⟨(b.push (on T)).push (pC a b.objs.size),e,f,g,h⟩):az (aC j k) l (bI (.ref a) T) Q m ⟨b,e,f,g,h⟩:=by
 have V:=tc_lookup;have a0:=tc_bind (.ref a);have a3:(⟨b,e,f,g,h⟩:am).TypeIs (.ref a) "type":=⟨_,L,rfl⟩;refine en (codeAny_of_tree ?_);show az _ _ (callAny (.ref a) _) _ _ _;repeat(any_goals(first|assumption|with_reducible refine bU L ?_|wp_step))
 refine n0 rfl ?_;exact codeAny_call_builtin_at (kU _ (by decide+kernel)) entry_typeCall (wpAny_check_type_call_sub L (OF F G H J L M O R S U))
end
end
section
inductive EX(h:dk)(e C:aS)(od:Option (aS×List c7)):Prop|mk(oe:jb)(vs:Array ap)(h1:h.get? e=Z oe)(h2:oe.cls=.ref C)(h3:oe.data=.fields vs)(h4:vs[1]?=Z .none)(h5:oe.dict=od.map (·.1))(h6:∀p,od=Z p->p.1≠e/\∃n,h.get? p.1=Z (dG p.2 n))
theorem EX.d(a:EX b c e f)(d:∀g h,b.get? g=Z h->i.get? g=Z h):EX i c e f:=by obtain⟨j,k,l,m,n,o,p,q⟩:=a;exact⟨j,k,d _ _ l,m,n,o,p,λr s=>let⟨t,u,g⟩:=q r s;⟨t,u,d _ _ g⟩⟩
section
variable{m:eT}{n:iF}{h:aN}{F:ap->am->Prop}{a:dk}{c:Array GenState}{d:Drawn}{e:Nat}{f:OsState}
variable{o p:aX}{b q:aS}{r i s:List ap}{t:Bool}{u:List aX}{v:List ap}{w:Bool}{x:Option Bool}{y:Option aS}{z A B C E:Option ap}{g k l:String}
theorem OH(j:fO g k l s){m}(n:(aQ b::i).contains (.type g)=I)(G:a.get? b=Z (dI o p b q r i t u v w x y z A B C E k))(H:a.get? J=Z L)(M:L.cls=.ref b)(N:Q () ⟨a,c,d,e,f⟩):az m h (jA l ⟨.ref J::O,[]⟩) Q F ⟨a,c,d,e,f⟩:=by
 have P:=j.noStar;simp only[jA,j.initKind,j.initSplit,j.initRow];repeat(first|(with_reducible refine bU H ?_;refine M▸?_)|with_reducible refine bU G ?_|(with_reducible refine dj G ?_;refine n.symm▸?_)|wp_step)
 refine wpAny_onRaise ?_;rw[show∀(R S:String)(T:Nat),Bind.check ⟨.positional,"*",g,.self,[⟨"args",.varPos,ak⟩]⟩ R S T (b9 (λU=>U.fst) ({pos:=aQ J::O}:Args).kw)=ba ()fromλR S T=>check_star_args _ _ _ _ _ _];exact au N
noncomputable def pD(b:aS)(c:Option aS)(a d:dk):Prop:=(∀e f,e≠b->Z e≠c->a.get? e=Z f->d.get? e=Z f)/\li a<=li d
theorem pD.j(b:pD G H a J)(c:pD G H J L):pD G H a L:=⟨λd e f g h=>c.1 d e f g (b.1 d e f g h),ao b.2 c.2⟩
theorem OI(j:fO g k l s){F:ek->am->Prop}(a0:(aQ b::i).contains (.type g)=I)(a3:a.get? b=Z (dI o p b q r i t u v w x y z A B C E k))(a4:EX a G b a5)(a6:H.length<=cB)(a7:∀J,EX J G b a5->pD G D a J->F (.ok (.ret .none)) ⟨J,c,d,e,f⟩):dY (aC m n) h (.call (.builtin l) ⟨.ref G::H,[]⟩) F ⟨a,c,d,e,f⟩:=by
 obtain⟨a8,L,M,N,O,a9,b0,P⟩:=a4;refine fi j.init.plain j.initEntry (OH j a0 a3 M N ?_);have b1:(a.push (on H)).get? G=Z a8:=av _ M;have b2:0<L.size:=by have:=(Array.getElem?_eq_some_iff.mp a9).1;exact(Y [] [L.size] ⟨[1],[],[.T .u .a],.T .o .a⟩) this
 unfold Builtin.«BaseException.__init__»;wp_walk;refine O▸?_;refine au ?_;refine(Array.getElem?_eq_getElem b2)▸?_;refine au (af (fZ b1 O b2 ?_));have b3:∀Q R,Q≠G->a.get? Q=Z R->((a.push (on H)).update G (bT (·.setIfInBounds 0 (aQ a.objs.size)))).get? Q=Z R:=λQ R S T=>(bG _ _ (dT S)).trans (av _ T);have U:az (aC m n) h.in1 (ret bW) (λU V=>match U with|Fin.done b4=>F (Except.ok b4) V|Fin.again b5=>b5.quiet=I/\dY (aC m n) h b5 F V) (λG V=>F (Except.error G) V) ⟨(a.push (on H)).update G (bT (·.setIfInBounds 0 (aQ a.objs.size))),c,d,e,f⟩:=by
  refine au (a7 _ ⟨_,_,(bQ (bT (·.setIfInBounds 0 (aQ a.objs.size))) b1 (eB (cQ O _))),(Obj.cls_mapFields _ _).trans N,cQ O _,?_,(EU _ _).trans b0,λW X=>⟨(P W X).1,?_⟩⟩ ⟨λQ R S _ T=>b3 Q R S T,?_⟩);·refine ah (Array.getElem?_setIfInBounds_ne (by decide)) ?_;exact a9
  ·refine lp ((P W X).2) λb6 c1=>?_;exact⟨b6,b3 _ _ (P W X).1 c1⟩
  ·unfold li;rw[cL,aV];exact aL _
 cases L[0]<;>first|exact au U|exact wpAny_letGo U
end
end
section
open Builtin Builtin.ObjectAttr
section
variable{e:eT}{f:iF}{g:aN}{d:ew}{b:am}{h:ap->am->Prop}
structure xJ(d:ew)(C:aS)(name:aX)(cd:iA):Prop where
 c:kh d C=Z cd
 t:dH d (.ref C) "__setattr__"=Z (Z (.builtin "object.__setattr__"))li:cd.mro.contains (.type "object")=I
 pass:∀self,refuseLoop self "__setattr__" cd.mro=ba ()a:jM d C name=Z D
 m:cd.hasDict=I
theorem OJ(a:d.In b.heap)(c:xJ d i j k)(a0:EX b.heap l i m)(a3:∀n,m=Z n->(gJ j n.2).isSome=I)(a4:∀n,m=Z n->n.2.length+1<=1000)(o:∀p q r s t,EX p l i (Z (q,kF j r (.str j t) u ((m.map (·.2)).getD [])))->pD l (m.map (·.1)) b.heap p->(m=D->li b.heap<=q)->(∀n,m=Z n->q=n.1)->Q () {b with heap:=p,toks:=s}):az (aC e f) g (setAttr (.ref l) j u) Q h b:=by
 obtain⟨v,w,x,y,z,A,B,C⟩:=a0;have E:∃F,InstAt b.heap l v i F:=by induction m with|none=>exact⟨D,x,y,by unfold notCls;exact z.symm▸rfl,by refine B▸?_;trivial⟩|some n=>refine lA (C n rfl) λ_ G=>lp G λa5 H=>?_;exact⟨Z _,x,y,by unfold notCls;exact z▸rfl,by rw[B];exact H⟩
 obtain⟨F,E⟩:=E;refine set_plain a E c.t ?_;have J:=PySem.F.store_object;refine fi J.slot.plain J.entry (@check_slot (aC e f) _ _ {b with toks:=b.toks+1} "object.__setattr__" "object" "__setattr__" (.ref l) [.str j b.toks,u] [] _ J.kind J.split (E.type.andThen (looks_mroIn a (by unfold mroIn;refine c.c▸?_;rw[Option.bind_some,if_neg (by refine((by cases a6:k.mro with|nil=>have:=c.li;replace this:=a6▸this;cases this|cons _ _=>rfl:k.mro.isEmpty=ak))▸?_;decide),c.li])):j3 (aC e f) b.heap (isInstance (.ref l) (.type "object")) I) (J.args (.ref l) (.str j b.toks) u) ?_);refine ll (Option.bind_eq_some_iff.mp c.a) λL a7 a8=>?_;have a9:j3 (aC e f) b.heap (storeTaker? L) D:=by
  induction L with|none=>exact .now|some b0=>
   refine ll (Option.map_eq_some_iff.mp a8) λM N b1=>?_;refine(looks_takesIn a N).andThen ?_;induction M;·exact .now
   ·exact nn b1.symm
 rw[osa_eq,refuse_eq];refine af (af (E.type.at (af (((looks_clsIn a c.c).andThen .now:j3 (aC e f) b.heap (mroOf (.ref i)) k.mro).at ?_))));rw[c.pass];refine au (af (E.type.at (af ((g_ a a7).at (af (a9.at ?_))))));obtain⟨b2,b3,b4,b5⟩:=v;dsimp only at y z B;subst y;subst z;refine af (au (af (af (jY x (af ((looks_clsIn a c.c).at ?_))))))
 refine c.m.symm▸?_;induction m with|none=>
  subst(B:b3=D);have b6:(b.heap.push {cls:=.type "dict",data:=.dict #[]}).get? l=Z {cls:=.ref i,dict:=D,data:=.fields w,slots:=b5}:=av _ x;have O:l≠b.heap.objs.size:=cY (bK x);refine af (wpAny_alloc ?_);refine af (wpAny_update b6 ?_);refine au (af (au ?_));have c1:((b.heap.push {cls:=.type "dict",data:=.dict #[]}).update l λP=>{P with dict:=Z b.heap.objs.size}).get? b.heap.objs.size=Z (dG [] 0):=(kL _ _ _ _ O.symm).trans (Heap.get?_push_at rfl rfl);refine zR (p:=b.toks) (a:={b with heap:=_,toks:=_}) c1 rfl (by decide) λp r s R t S T=>?_;have c2:p.get? l=Z {cls:=.ref i,dict:=Z b.heap.objs.size,data:=.fields w,slots:=b5}:=(T.2 l O).trans (bQ _ b6 rfl);refine o p b.heap.objs.size r s t ⟨_,w,c2,rfl,rfl,A,rfl,λn U=>?_⟩ ⟨λM P N _ V=>?_,?_⟩ (λ_=>al _) (λn U=>by exact nn U);·refine(aa U)▸?_;exact⟨O.symm,R,S⟩
  ·exact(T.2 M (cY (bK V))).trans ((kL _ _ _ _ N).trans (av _ V))
  ·have W:p.objs.size=_:=T.1;show b.heap.objs.size<=p.objs.size;rw[W,cL,aV];exact aL _|some n=>
  refine gz λc3 c4=>?_;obtain⟨q,c5⟩:=n;subst(B:b3=Z q);refine lA (C (q,c5) rfl) λc6 G=>lp G λa5 H=>?_;refine c4 ?_;refine au (af (au ?_));refine zR (p:=b.toks) (a:={b with toks:=_}) H (a3 _ rfl) (a4 _ rfl) λp r s R t S T=>?_;refine o p q r s t ⟨_,w,(T.2 l (dT c6)).trans x,rfl,rfl,A,rfl,λn U=>?_⟩ ⟨λM P _ N V=>?_,?_⟩ (λX=>by exact nn X.symm) (λn U=>by refine(aa U)▸?_;rfl);·refine(aa U)▸?_;exact⟨c6,R,S⟩
  ·exact(T.2 M λX=>N (by refine X▸?_;rfl)).trans V
  ·have W:p.objs.size=b.heap.objs.size:=T.1;exact bV W.symm
end
end
section
open Builtin Builtin.ObjectAttr Builtin.Float
section
variable{c:eT}{d:iF}{e:aN}{b:ap->am->Prop}{a:am}
theorem OK(f:g.length<=100002)(h:∀i j,Q (.done (.ret (.str g i))) {a with toks:=j}):az (aC c d) e (retStr g) Q b a:=by unfold retStr;exact af (wpAny_mkStr (au (h _ _)) (ao f (by rw[m5];decide)))
theorem OL{f:Type}{g h:gF f}{i:f->am->Prop}(j:g=h)(k:az (aC c d) e h i b a):az (aC c d) e g i b a:=j.symm▸k
noncomputable def AH(a:Bool):List Nat:=if a then[45]else[]
noncomputable def AI(a:List Nat):List Nat:=if a.isEmpty then[]else aO (0-a.length) 48++a
noncomputable def xK(a b:List Nat):aX:=⟨(aO ((-1:Int)-(a.length+([]:List Nat).length+([]:List Nat).length)-b.length).toNat 32++a++[]++aO 0 32++b++[]++aO 0 32).toArray⟩
theorem OM:(xK f g).length=f.length+g.length:=by have a:((-1:Int)-(f.length+([]:List Nat).length+([]:List Nat).length)-g.length).toNat=0:=kO (by simp only[i7];exact Y [] [f.length,g.length] ⟨[1,2],[],[],.l (.s (.s (.k (-1)) (.p (.p (.n .a) (.n .o)) (.n .o))) (.n .b)) .o⟩);unfold xK;rw[a];simp[Str.length]
theorem ON:∀f,(AH f).length<=1|I=>al _|ak=>bv _
theorem OO:∀f:List Nat,(AI f).length<=f.length|[]=>al _|g::h=>by show(aO (0-_) 48++_).length<=_;rw[Nat.zero_sub];exact al _
set_option maxHeartbeats 0 in
theorem OP{f}{g h}(i:f.natAbs<=100000)(j:∀k l h,k.length<=100002->Q (.done (.ret (.str k l))) {a with toks:=h}):az (aC c d) e (Builtin.«int.__format__» ⟨[.int f g,.str "x" h],[]⟩) Q b a:=by
 have m:(xK (AH (aE (f<0))) (AI ((Nat.toDigits 16 f.natAbs).map λn=>(if(120==88)=I then n.toUpper else n).toNat))).length<=100002:=by rw[OM];refine ao (fw (ON _) (ao (OO _) (bV (ay _)))) ?_;exact ao (eY (ao (tDigits_len_le 16 f.natAbs) (cM i)) 1) (by decide)
 have o:∀g h,Q (.done (.ret (.str _ g))) {a with toks:=h}:=λg h=>j _ g h m;clear j i;unfold Builtin.«int.__format__»;refine af (et (a:=(Value.int f g,Value.str "x" h)) (by kernel_rfl) ?_);refine af (et (a:=f) (by kernel_rfl) ?_);refine af (wpAny_typeNameOf (T:="str") (j4 _ _ _) (by decide) λ_=>?_);refine af (et (a:=Z ("x":aX)) (by kernel_rfl) ?_);refine fD (by kernel_rfl) ?_;refine fD (by kernel_rfl) ?_;refine af (wpAny_typeNameOfCut_int ?_);refine OL (h:=retStr (xK (AH (aE (f<0))) (AI ((Nat.toDigits 16 f.natAbs).map λn=>(if(120==88)=I then n.toUpper else n).toNat)))) (by kernel_rfl) ?_;exact OK m o
theorem OQ(f:g.natAbs<=100000)(h:∀i j k,i.length<=100002->Q (.str i j) {a with toks:=k}):az (aC c d) e (formatField (.int g l) "x") Q b a:=by refine(aT ?_:az _ _ (bF [.int g l] (pyFormat (.int g l) "x")) Q b a);unfold pyFormat;refine af (wpAny_mkStr ?_ (by decide));refine af (m:=callSpecial? (.int g l) (bN "__format__") [.str "x" a.toks]) (wpAny_callSpecial?_slot (name:=bN "__format__") (jX _ g l) slot_int_format ?_);refine en (fi slot_int_format.plain entry_int_format (slot_int_format.check _ _ _ _ _ _ _ _ (jX _ g l) (args_int_format _ _) (OP f λi j k m=>?_)));refine af (wpAny_isInstance (j4 _ _ _) isSubtype_str_str (au (h _ _ _ m)))
end
end
section
set_option backward.match.sparseCases true
section
variable{d:Model}{c:aN}{b:ap->am->Prop}{a:aS}{f:String}{g:bL}
inductive RM(b:ap->am->Prop)(a:aS)(oC:jb)(v:ap)(s₁:am):Prop|mk(e:aS)(oe:jb)(vs:Array ap)(h1:v=.ref e)(h2:s₁.heap.get? a=Z oC)(h3:s₁.heap.get? e=Z oe)(h4:oe.cls=.ref a)(h5:oe.data=.fields vs)(h6:vs[1]?=Z .none)(h7:b (.ref e) s₁)
theorem OR{e:EC}(h:(aQ a::e.a).contains (.type "BaseException")=I)(i:c.handled=D)(j:az d c k (RM b a (e.o a f)) b l):az d c (raiseStmt g (Z k) D) Q b l:=by
 refine af (aK j (λm n o=>?_) λ_ _ k=>k);obtain⟨p,q,r,rfl,s,t,u,v,w,x⟩:=o;unfold EC.o at s;obtain⟨y,z,A,B,C⟩:=n;obtain⟨E,F,G,H⟩:=q;dsimp only at u v;subst u;subst v;repeat(first|with_reducible refine bU t ?_|with_reducible refine bU s ?_|(with_reducible refine dj s ?_;refine h.symm▸?_)|wp_step)
 refine w▸?_;refine au ?_;exact au (wpAny_raiseNew_none i x)
end
structure uJ(G:Gd)(f:Nat)(o:jb)(fd:dW)(body:List fq)(names:List aX)(dvs:List ap):Prop where
 kZ:G.K.lookup f=Z o
 fn:o.cls=.type "function"k:o.data=.func fd
 code:codeIn G.K fd.code fd.qualname=I
 bd:fd.body=.stmts body
 c:fd.closure=[]pos:fd.params.posonlyargs=[]h:fd.params.args.map (·.arg)=names
 i:fd.params.kwonlyargs=[]b:fd.params.vararg=D
 kw:fd.params.kwarg=D
 d:names.Nodup
 j:sG G fd dvs
 m:dvs.length<=names.length
 co:fd.scope.isCoroutine=ak
 gen:fd.scope.isGenerator=ak
 a:fd.scope.kind=.function
 e:fd.globals=b7
 bi:fd.builtins=eM
 g:∀x∈names,fd.scope.names.lookup x=Z .local
section
variable{b:Gd}{c:aN}{a:am}
theorem uJ.l(d:uJ b f n fd o p q){e:ek->am->Prop}(g:∀r n,b.B.get? r=Z n->a.heap.get? r=Z n)(h:c.depth<1000)(i:s.length=p.length)(j:∀t u v,t.Ns a.heap.objs.size v->(∀(w:Nat)(x:aX)(y:ap),p[w]?=Z x->s[w]?=Z y->v x=Z y)->(∀z n,a.heap.get? z=Z n->t.get? z=Z n)->az (aC b.a b.w) (c.deeper (bn fd a.heap.objs.size f)) (ig o (bn fd a.heap.objs.size f)) (λA B=>e (.ok (.ret (match A with|.ret y=>y|_=>.none))) B) (λ_ _=>False) {a with heap:=t,toks:=u}):dY (aC b.a b.w) c (.call (.ref f) ⟨s,[]⟩) e a:=by
 have k:b.K.In a.heap:=b.X.keeps g;have l:AF a fd q:=by
  rcases d.j with m|⟨C,n,E,F,G,H⟩;·exact .inl m
  ·exact .inr ⟨C,n,E,F,k _ _ G,H⟩
 have J:=ES (a:=a) (j:=s) d.pos d.h d.i d.b d.kw d.d ((Y [] [s.length,p.length] ⟨[1],[],[.E .a .b],.L .a .b⟩) i) ((Y [] [s.length,p.length,q.length] ⟨[1,2,3],[],[.E .a .b],.L .b (.p .a .c)⟩) i) d.m l;rw[show p.length-s.length=0 by exact(Y [] [s.length,p.length] ⟨[1,3],[.s .b .a],[.E .a .b],.E .c .o⟩) i,Nat.sub_zero,f8,cU]at J;refine E1 h (k _ _ d.kZ) d.k (b.b.keeps g) (codeRec_of k d.code) d.bd J d.c (λx L=>.inl (d.g _ (i8 L).1)) d.co d.gen d.a λM x=>?_;refine mY x.toInCall.same λt u N=>?_;subst N;exact aK (j t u _ x.toInCall.ns (λw O y F G=>E0 d.d F G (d.g O (aH F))) x.toInCall.keep) (λ_ _ P=>P) λ_ _ P=>P.elim
theorem tA{b}{d}{e:ap->am->Prop}(f:g.scope.kind=.function)(h:g.kindOf i=Z .local)(j:a.heap.Ns g.locals k)(l:k i=Z m)(n:(i==("__debug__":aX))=ak)(o:e m a):az b c (bu (.Name i d) g) e p a:=iP (wpAny_loadName_local f h j l o) n
theorem uK{b}{d:List ap->am->Prop}(e:bh (f::g) h=(ak,bu f h)::bh g h)(i:az b c (bu f h) (λj k=>az b c (di (bS l (bh g h))) (λm n=>d (j::m) n) o k) o a):az b c (di (bS l (bh (f::g) h))) d o a:=by refine((by refine ah (congrArg _ e) ?_;rfl:bS l (bh (f::g) h)=(ak,bu f h)::bS l (bh g h)))▸?_;refine af (aK i (λj k p=>af (au (af (aT (aK p (λm n q=>au q) λ_ _ r=>r))))) λ_ _ r=>r)
theorem AJ{d e}{f:aX->Option ap}{g:Option (aS×List c7)}{h:Flow->am->Prop}{i:ap->am->Prop}(j:∀k l,b.B.get? k=Z l->a.heap.get? k=Z l)(m:xJ b.K e n o)(p:q.scope.kind=.function)(r:q.kindOf "self"=Z .local)(s:q.kindOf t=Z .local)(u:a.heap.Ns q.locals f)(v:f "self"=Z (.ref d))(w:f t=Z x)(y:(t==("__debug__":aX))=ak)(z:EX a.heap d e g)(A:∀B,g=Z B->(gJ n B.2).isSome=I)(C:∀B,g=Z B->B.2.length+1<=1000)(E:∀F G H J L,EX F d e (Z (G,kF n H (.str n L) x ((g.map (·.2)).getD [])))->pD d (g.map (·.1)) a.heap F->(g=D->li a.heap<=G)->(∀B,g=Z B->G=B.1)->h .next {a with heap:=F,toks:=J}):az (aC b.a b.w) c (eO (.Assign [.Attribute (.Name "self" N) n O] (.Name t P) S) q) h i a:=by rw[tz (by rfl) (by rfl) rfl];refine af (bC (af (tA p s u w y (af ?_))));refine af (aT (tA p r u v (by decide) (af (bC (af (aT ?_))))));refine OJ (b.X.keeps j) m z A C λF G H J L k M Q R=>?_;exact eX (au (E F G H J L k M Q R))
end
end
section
noncomputable def pz(a b c:Nat):im:=⟨a,b,a,c⟩
noncomputable def AK:List fq:=[.Expr (.Call (.Attribute (.Name "ValueError" (pz 8 8 18)) "__init__" (pz 8 8 27)) [.Name "self" (pz 8 28 32),.Name "reason" (pz 8 34 40)] [] (pz 8 8 41)) (pz 8 8 41),.Assign [.Attribute (.Name "self" (pz 9 8 12)) "reason" (pz 9 8 19)] (.Name "reason" (pz 9 22 28)) (pz 9 8 28)]
structure uL(G:Gd)(f:Nat):Prop where
 fn:∃(o:jb)(fd:dW)(dvs:List ap),uJ G f o fd AK ["self","reason"] dvs/\fd.scope.names.lookup ("ValueError":aX)=Z .globalImplicit
 free:G.mg "ValueError"=D
 a:jS G.K (.type "ValueError") (.type "type") "__init__"=Z (.val (.builtin "ValueError.__init__"))
structure E2(G:Gd)(C:aS)(k:EC):Prop where
 b:G.K.lookup C=Z (k.o C "ValueError.__new__")c1:(aQ C::k.a).contains (.type "ValueError")=I
 c2:(aQ C::k.a).contains (.type "AttributeError")=ak
 c:(aQ C::k.a).contains (.type "NameError")=ak
 a:(aQ C::k.a).contains (.type "BaseException")=I
structure v0(G:Gd)(C f:aS)(cd:iA):Prop where
 t:∀name∈(["reason","cause","value"]:List aX),xJ G.K C name cd
 obj:∃k:EC,E2 G C k
 c:dH G.K (.ref C) "__init__"=Z (Z (.ref f))l:eF G.K (.ref C)=I
theorem pD.ns(a:pD b c d e)(f:g≠b)(h:Z g≠c)(i:d.Ns g k):e.Ns g k:=by obtain⟨j,l,m,n,o⟩:=i;exact BY j l m (a.1 _ _ f h n) o
section
variable{a:Gd}{f:aN}{b:am}{c e:aS}{h d:Nat}{g:iA}
theorem EX.lt(a:EX i c e j):c<i.objs.size:=by obtain⟨b,d,f,_⟩:=a;exact bK f
set_option maxHeartbeats 2000000 in
theorem E3{i:ek->am->Prop}(j:uL a d)(k:v0 a e h g)(l:∀m n,a.B.get? m=Z n->b.heap.get? m=Z n)(o:a.B.get? c=D)(p:EX b.heap c e D)(q:f.depth<1000)(r:∀s t u v w,EX s c e (Z (u,kF "reason" v (.str "reason" w) x []))->pD c D b.heap s->li b.heap<=u->i (.ok (.ret .none)) {b with heap:=s,toks:=t}):dY (aC a.a a.w) f (.call (.ref d) ⟨[.ref c,x],[]⟩) i b:=by refine sZ j.fn λn y a0 z A=>?_;refine lp k.obj λB C=>?_;refine z.l l q rfl λE t F G H J=>?_;have L:∀m n,a.B.get? m=Z n->E.get? m=Z n:=λm n M=>J _ _ (l m n M);have N:F "self"=Z (.ref c):=H 0 _ _ rfl rfl;have O:F "reason"=Z x:=H 1 _ _ rfl rfl;have P:(bn y b.heap.objs.size d).kindOf "self"=Z .local:=z.g _ (.head _);have Q:=z.g _ (.tail _ (.head _));refine cE (fY ?_ (by have:(bn y b.heap.objs.size d).scope.kind=.function:=z.a;unfold eu;refine this▸?_;rfl) rfl);refine af ?_;refine c_ z.a A (loadGlobal_builtin ((z.e▸(a.hg.keeps L):E.Ns y.globals _):E.Ns (bn y b.heap.objs.size d).globals a.mg) j.free ((z.bi▸(a.hb.keeps L):E.Ns y.builtins _):E.Ns (bn y b.heap.objs.size d).builtins a.mb) ((a.boot "ValueError" (by decide)).trans PyProof.Rows.Boot.«ValueError») ?_) (by decide);dsimp only;refine af (bC (af (aT ?_)));refine method_type (h₀:=b.heap) (L:=b.heap.objs.size) (m:=F) (K:=a.K) (T:="ValueError") (name:="__init__") (v:=.builtin "ValueError.__init__") (⟨G,J,al _⟩:Fr b.heap b.heap.objs.size E F) (a.X.keeps l) (by kernel_rfl:typeOf (.type "ValueError")=ba (.type "type")) (by decide+kernel:Manifest.isStub "ValueError"=ak) j.a (by kernel_rfl:handedIn (.builtin "ValueError.__init__")=I) ?_;refine dL (P:=a.K.In) rfl (uz _) (dm ?_);refine uK rfl (tA (k:=F) z.a P G N (by decide) ?_);refine uK rfl (tA (k:=F) z.a Q G O (by decide) ?_);refine au ⟨a.X.keeps L,?_⟩;refine en (OI iT C.c1 (L _ _ (a.X _ _ C.b)) (p.d J) (by show 1<=_;refine m5▸?_;decide) λR S T=>?_);refine cE (AJ (o:=g) (f:=F) (λm n M=>T.1 _ _ (λU=>by replace M:=o▸U▸M;exact nn M) (λU=>by exact nn U.symm) (L m n M):∀m n,a.B.get? m=Z n->R.get? m=Z n) (k.t _ (.head _)) z.a P Q (T.ns (dD p.lt:b.heap.objs.size≠c) (λU=>by exact nn U.symm) G:R.Ns b.heap.objs.size F) N O (by decide) S (λV U=>by exact nn U) (λV U=>by exact nn U) λW u v a3 w a4 a5 a6 _=>?_);refine dw ?_;have X:pD c D b.heap E:=⟨λa7 n _ _ M=>J a7 n M,bB (rO G)⟩;exact r W a3 u v w a4 (X.j (T.j a5)) (ao (X.j T).2 (a6 rfl))
end
end
section
noncomputable def AL:aj:=.JoinedStr [.Constant (.str "trap ") 0 (pz 36 36 41),.FormattedValue (.Name "cause" (pz 36 42 47)) (-1) D (pz 36 41 48),.Constant (.str " with ") 0 (pz 36 48 54),.FormattedValue (.Name "value" (pz 36 55 60)) (-1) (Z (.JoinedStr [.Constant (.str "x") 0 (pz 36 61 62)] (pz 36 60 62))) (pz 36 54 63)] (pz 36 34 64)
noncomputable def AM:List fq:=[.Expr (.Call (.Attribute (.Name "BoardError" (pz 36 8 18)) "__init__" (pz 36 8 27)) [.Name "self" (pz 36 28 32),AL] [] (pz 36 8 65)) (pz 36 8 65),.Assign [.Attribute (.Name "self" (pz 37 8 12)) "cause" (pz 37 8 18)] (.Name "cause" (pz 37 21 26)) (pz 37 8 26),.Assign [.Attribute (.Name "self" (pz 38 8 12)) "value" (pz 38 8 18)] (.Name "value" (pz 38 21 26)) (pz 38 8 26)]
structure OS(G:Gd)(fB CB:Nat):Prop where
 mg:G.mg "BoardError"=Z (.ref CB)sp:specialIn G.K (.ref CB) "__getattribute__"=Z (Z (.builtin "type.__getattribute__"))f:readsIn G.K CB (.type "type")=I
 a:jS G.K (.ref CB) (.type "type") "__init__"=Z (.val (.ref fB))
structure v3(G:Gd)(f fB:Nat):Prop where
 fn:∃(o:jb)(fd:dW)(dvs:List ap),uJ G f o fd AM ["self","cause","value"] dvs/\fd.scope.names.lookup ("BoardError":aX)=Z .globalImplicit
 a:∃CB,OS G fB CB
 l:eF G.K (.ref fB)=I
theorem OT:∀a:Fin 101,((jj (a.val:Int):aX)).length<=1000:=by decide+kernel
section
variable{b:Gd}{e:aN}{a:am}{c g:aS}{d f:Nat}{h:iA}
theorem OU(c:i.scope.kind=.function)(d:i.kindOf "cause"=Z .local)(f:i.kindOf "value"=Z .local)(g:a.heap.Ns i.locals j)(h:j "cause"=Z (.int k l))(m:j "value"=Z (.int n o))(p:1<=k/\k<=100)(q:0<=n/\n<=100000)(r:∀s t u,Q (.str s t) {a with toks:=u}):az (aC b.a b.w) e (bu AL i) Q v a:=by
 have w:(jj k:aX).length<=1000:=by have:=OT ⟨k.toNat,(Y [k] [] ⟨[1,2],[.t .a],[.A (.l .u .a) (.l .a (.k 100))],.T .a (.k 101)⟩) p⟩;rwa[show((⟨k.toNat,(Y [k] [] ⟨[1,2],[.t .a],[.A (.l .u .a) (.l .a (.k 100))],.T .a (.k 101)⟩) p⟩:Fin 101).val:Int)=k from eR ((Y [k] [] ⟨[1],[],[.A (.l .u .a) (.l .a (.k 100))],.l .o .a⟩) p)]at this
 unfold AL;have x:(jR++("trap ":aX)).length=5:=by decide
 generalize y:jR++("trap ":aX)=z at x;refine eG (dh ?_);show(jR++("trap ":aX)).length<=cB/\_;refine y.symm▸?_;refine⟨by refine x.symm▸?_;refine m5▸?_;decide,?_⟩;refine eG (j8 (tA (k:=j) c d g h (by decide) (wpAny_formatField_int ?_ ?_)));·have:k.natAbs<=100:=Int.ofNat_le.mp (by exact(cX (bx (by decide) p.1)).symm▸(p.2));exact iq (Nat.log2_le_self _) ((Y [] [k.natAbs] ⟨[1],[],[.L .a (.k 100)],.T .a (.k 1920)⟩) this)
 have A:(z++(jj k:aX)).length<=1005:=by rw[fR];exact(Y [] [(bN (jj k)).length,z.length] ⟨[2,1],[],[.L .a (.k 1000),.E .b (.k 5)],.L (.p .b .a) (.k 1005)⟩) w x
 refine⟨by refine m5▸?_;exact lk A rfl,?_⟩;generalize z++(jj k:aX)=B at A⊢;refine eG (dh ?_);have C:(B++(" with ":aX)).length<=1011:=by rw[fR];exact(Y [] [(bN " with ").length,B.length] ⟨[1,2],[],[.E .a (.k 6),.L .b (.k 1005)],.L (.p .b .a) (.k 1011)⟩) (by decide:((" with ":aX)).length=6) A
 refine⟨by exact lk C rfl,?_⟩;generalize B++(" with ":aX)=E at C⊢;refine eG (wpAny_FormattedValue_spec (tA (k:=j) c f g m (by decide) ?_));rw[arm_eval_JoinedStr];refine(dh ?_:az _ e (bu (.Constant (.str "x") 0 (pz 36 61 62)) i) _ _ _);refine r_ ("x") _ rfl (OQ (Int.ofNat_le.mp (by refine(cX q.1).symm▸?_;exact q.2)) λF G u H=>?_);have J:(E++F).length<=200000:=by rw[fR];exact(Y [] [E.length,F.length] ⟨[1,2],[],[.L .a (.k 1011),.L .b (.k 100002)],.L (.p .a .b) (.k 200000)⟩) C H
 refine⟨by rw[m5];exact lk J rfl,joinParts_nil (r _ _ _) (by rw[m5];exact lk J rfl)⟩
set_option maxHeartbeats 2000000 in
theorem OW{i:ek->am->Prop}(j:v3 b d f)(a0:uL b f)(k:v0 b g d h)(l:∀m n,b.B.get? m=Z n->a.heap.get? m=Z n)(o:b.B.get? c=D)(p:EX a.heap c g D)(q:e.depth+1<1000)(a3:1<=r/\r<=100)(a4:0<=s/\s<=100000)(a5:∀t u v a6,EX t c g (Z (v,a6))->gJ "cause" a6=Z (Z (.int r a7))->pD c D a.heap t->li a.heap<=v->i (.ok (.ret .none)) {a with heap:=t,toks:=u}):dY (aC b.a b.w) e (.call (.ref d) ⟨[.ref c,.int r a7,.int s a8],[]⟩) i a:=by refine sZ j.fn λn w a9 x b0=>?_;refine lp j.a λb1 y=>?_;refine x.l l ((Y [] [e.depth] ⟨[1],[],[.T (.p .a .u) (.k 1000)],.T .a (.k 1000)⟩) q) rfl λz u A B C E=>?_;have F:∀m n,b.B.get? m=Z n->z.get? m=Z n:=λm n G=>E _ _ (l m n G);have H:A "self"=Z (.ref c):=C 0 _ _ rfl rfl;have b2:A "cause"=Z (.int r a7):=C 1 _ _ rfl rfl;have b3:A "value"=Z (.int s a8):=C 2 _ _ rfl rfl;have J:(bn w a.heap.objs.size d).kindOf "self"=Z .local:=x.g _ (.head _);have b4:=x.g _ (.tail _ (.head _));have b5:=x.g _ (.tail _ (.tail _ (.head _)));have b6:a.heap.objs.size≠c:=dD p.lt;refine cE (fY ?_ (by have:(bn w a.heap.objs.size d).scope.kind=.function:=x.a;unfold eu;refine this▸?_;rfl:eu (bn w a.heap.objs.size d)=ak) rfl);refine af ?_;refine c_ x.a b0 (gi ((x.e▸(b.hg.keeps F):z.Ns w.globals _):z.Ns (bn w a.heap.objs.size d).globals b.mg) y.mg ?_) (by decide);dsimp only;refine af (bC (af (aT ?_)));have L:b.K.In z:=b.X.keeps F;refine method_cls (s:={a with heap:=z,toks:=u}) (name:="__init__") L y.sp (cls_value (s:={a with heap:=z,toks:=u}) (name:="__init__") (v:=.ref f) L y.f y.a (rfl:handedIn (.ref f)=I) ?_);refine dL (P:=b.K.In) rfl (vO j.l) (dm ?_);refine uK rfl (tA (k:=A) x.a J B H (by decide) ?_);refine uK rfl (OU (j:=A) x.a b4 b5 B b2 b3 a3 a4 λc1 c2 c3=>?_);refine au ⟨L,?_⟩;refine en (E3 (b:={a with heap:=z,toks:=c3}) a0 k F o (p.d E) (by exact q) λc4 c5 v c6 d0 d1 M N=>?_);have O:a.heap.objs.size<li z:=rO B;have d2:∀m n,b.B.get? m=Z n->c4.get? m=Z n:=λm n G=>M.1 _ _ (λP=>nn (o.symm.trans (P▸G))) (λP=>nn P.symm) (F m n G);have d3:c4.Ns a.heap.objs.size A:=M.ns b6 (λP=>by exact nn P.symm) B;refine cE (AJ (o:=h) (f:=A) (g:=Z (v,_)) d2 (k.t _ (.tail _ (.head _))) x.a J b4 d3 H b2 (by decide) d1 (λQ P=>aa P▸rfl) (λQ P=>aa P▸(by decide:1+1<=1000)) λd4 d5 d6 d7 c2 R S _ d8=>?_);replace R:=(d8 _ rfl:d5=v)▸R;have T:∀{U n},z.get? U=Z n->Z U≠Z v:=λG P=>aZ _ (aF (nJ G) (aa P▸N));refine cE (AJ (o:=h) (f:=A) (g:=Z (v,_)) (λm n G=>S.1 _ _ (λP=>nn (o.symm.trans (P▸G))) (T (F m n G)) (d2 m n G):∀m n,b.B.get? m=Z n->d4.get? m=Z n) (k.t _ (.tail _ (.tail _ (.head _)))) x.a J b5 (S.ns b6 (λP=>cY (aF O N) (aa P)) d3:d4.Ns a.heap.objs.size A) H b3 (by decide) R (λQ P=>aa P▸rfl) (λQ P=>aa P▸(by decide:2+1<=1000)) λe0 e1 e2 e3 e4 V e5 _ e6=>?_);replace V:=(e6 _ rfl:e1=v)▸V;refine dw ?_;refine a5 e0 e3 v _ V rfl ⟨λU n W _ X=>?_,ao (bB O) (ao M.2 (ao S.2 e5.2))⟩ (ao (bB O) N);exact e5.1 _ _ W (T (E _ _ X)) (S.1 _ _ W (T (E _ _ X)) (M.1 _ _ W (λP=>nn P.symm) (E _ _ X)))
end
end
section
theorem Gr.w(a:Gr d n o s F G H J):Gr d n o s F G ⟨H.σ,H.mu+1⟩ J:=⟨a.b,a.u,a.x,a.v,a.l,a.q,λb=>absurd a.mu (by have:H.mu+1=s.mu:=b;exact(Y [] [H.mu,s.mu] ⟨[1],[],[.E (.p .a .u) .b],.N (.L .b .a)⟩) b),bo a.mu,a.i,a.y⟩
noncomputable def qI(a:Gd)(b:PT):Prop:=∀c d,b.a c=Z d->∃e f g,v0 a c e g/\uL a f/\(d=.a->e=f)/\(d=.b->v3 a e f)
section
variable{e:Gd}{p:List bL}{j:aN}{s u k:Wd}{q v l:MS}{o w c:am}{g:PT}{m r:Nat}{n:CC}{h:bL}{i x:Ro}{t:aX->Prop}{d f:aS}{a:Nat}{b:List c7}
theorem raised(u:Bx e g m p j h n t r)(v:FS e p n h r i k l c)(w:∀y z,c.heap.get? y=Z z->A.get? y=Z z)(x:EX A d a (Z (f,b)))(B:li c.heap<=d)(C:li c.heap<=f)(E:F≠0->∃G,gJ "cause" b=Z (Z (.int F G)))(H:Ad e p h r s q o k l c):SE e p n h r s q o (.ok (i,.c ⟨a,F⟩) l) (.ref d) {c with heap:=A,toks:=J}:=by refine gz λa0 L=>?_;obtain⟨M,N,O,P,Q,a3,a4,a5⟩:=x;refine lA (a5 _ rfl) λa6 a7=>lp a7 λR a8=>?_;refine L ?_;have S:=v.at.H;have a9:∀{T:List aS}{U:Nat},Gr T U k l c k l {c with heap:=A,toks:=J}:=Gr.h w (ao B (bB (nJ O)):li c.heap<=li A);have V:=S.i C;have W:=(S.h (tk:=J) w).m (s:={c with heap:=A,toks:=J}) a8 (S.r C) V;have X:∀{T:List aS}{U:Nat},U<=li c.heap->Gr T U k l c (k.b f (dG b R)) l {c with heap:=A,toks:=J}:=λb0=>a9.j (Gr.m V (ao b0 C)) (al _);refine⟨i,_,l,k.b f (dG b R),rfl,⟨H.g.a (X (v.li u.lo)).w,H.t.j (.d S (X (al _)).w H.g.i (W.w _) v.at.K.k .c)⟩,v.d (X (al _)) W,?_⟩;refine⟨d,M,N,rfl,ao H.g.i B,O,P,Q,.inl a3,(sD (dT a6)).trans (S.i B),S.r B,λb1=>?_⟩;refine lp (E b1) λG b2=>?_;exact Ic f b R G a4 (Wd.c _ _ _) b2
theorem E4(g:HS e k l c){y:XK}{z:ap->am->Prop}(h:v0 e a A a0)(i:uL e fB)(m:y=.a->A=fB)(n:y=.b->v3 e A fB)(o:j.depth+5<1000)(p:(y=.a/\(∃B,C=[B])/\E=0)\/(y=.b/\∃F B G,C=[.int E F,.int B G]/\(1<=E/\E<=100)/\0<=B/\B<=100000))(a3:∀H J d f b,(∀L N,c.heap.get? L=Z N->H.get? L=Z N)->EX H d a (Z (f,b))->li c.heap<=d->li c.heap<=f->(E≠0->∃O,gJ "cause" b=Z (Z (.int E O)))->Q (.ref d) {c with heap:=H,toks:=J}):az (aC e.a e.w) j (bI (.ref a) C) Q z c:=by
 refine lp h.obj λa4 q=>?_;have r:=g.v;obtain⟨s,a5,a6,a7,a8⟩:=c;have t:∀L N,s.get? L=Z N->((s.push (on C)).push (pC a s.objs.size)).get? L=Z N:=λL N d=>av _ (av _ d);have a9:C.length<=cB:=by
  refine m5.symm▸?_;rcases p with⟨_,⟨B,rfl⟩,_⟩|⟨_,F,B,G,rfl,_⟩;·show 1<=_;decide
  ·show 2<=_;decide
 have b0:∃u,e.K.lookup A=Z u/\u.cls=.type "function":=by induction y with|a=>refine sZ i.fn λN b1 b2 v _=>?_;exact⟨N,m rfl▸v.kZ,v.fn⟩|b=>refine sZ ((n rfl).fn) λN b1 b2 v _=>?_;exact⟨N,v.kZ,v.fn⟩
 refine ll b0 λu b3 b4=>?_;have w:e.K.In s:=e.X.keeps r;have x:EX ((s.push (on C)).push (pC a s.objs.size)) (s.objs.size+1) a D:=by refine⟨pC a s.objs.size,_,?_,rfl,rfl,rfl,rfl,λb5 M=>by exact nn M⟩;have:=aU (s.push (on C)) (o:=pC a s.objs.size) rfl;rwa[aV]at this
 have P:e.B.get? (s.objs.size+1)=D:=by cases R:e.B.get? (s.objs.size+1)with|none=>rfl|some N=>have:s.objs.size+1<s.objs.size:=nJ (r _ _ R);exact absurd this (Nat.not_lt.mpr (aL _))
 have S:∀H J f b,EX H (s.objs.size+1) a (Z (f,b))->(E≠0->∃O,gJ "cause" b=Z (Z (.int E O)))->pD (s.objs.size+1) D ((s.push (on C)).push (pC a s.objs.size)) H->li ((s.push (on C)).push (pC a s.objs.size))<=f->Q (.ref (s.objs.size+1)) ⟨H,a5,a6,J,a8⟩:=λH J f b T U N V=>a3 H J _ f b (λL b6 W=>N.1 L b6 (cY (Nat.lt_succ_of_lt (nJ W))) (λM=>by exact nn M.symm) (t _ _ W)) T (aL _) (ao (by unfold li;rw[aV,aV];exact Y [] [s.objs.size] ⟨[],[],[],.L .a (.p (.p .a .u) .u)⟩:li s<=li ((s.push (on C)).push (pC a s.objs.size))) V) U;refine OG iT q.c1 q.c2 q.c (w _ _ q.b) (g_ w h.c) (w _ _ b3) b4 a9 ?_;rcases p with⟨rfl,⟨B,rfl⟩,rfl⟩|⟨rfl,F,B,G,rfl,c1,c2⟩;·refine(m rfl)▸?_;refine en (E3 i h (λX N R=>t _ _ (r X N R)) P x (by exact(Y [] [j.depth] ⟨[1],[],[.T (.p .a (.k 5)) (.k 1000)],.T (.p .a .u) (.k 1000)⟩) o) λH J f c3 O T N V=>⟨rfl,S H J f _ T (λM=>absurd rfl M) N V⟩)
 ·refine en (OW (n rfl) i h (λX N R=>t _ _ (r X N R)) P x (by exact(Y [] [j.depth] ⟨[1],[],[.T (.p .a (.k 5)) (.k 1000)],.T (.p (.p .a .u) .u) (.k 1000)⟩) o) c1 c2 λH J f b T U N V=>⟨rfl,S H J f b T (λ_=>⟨F,U⟩) N V⟩)
theorem E5(y:tl a z A=Z B):(z=Z .a/\∃o,A=[.d o]/\(⟨a,0⟩:XC)=B)\/(z=Z .b/\∃C E,A=[.a C,.a E]/\((1<=C/\C<=100)/\0<=E/\E<=100000)/\(⟨a,C⟩:XC)=B):=by
 induction z with|none=>exact nn y|some z=>induction z with
  |a=>match A,y with|[E],y=>cases E with|d o=>exact .inl ⟨rfl,o,rfl,aa (C5 y).2⟩|_=>exact nn y
  |b=>match A,y with|[F,G],y=>cases F with
   |a C=>cases G with|a E=>refine gz λb c=>?_;refine lA (C5 y) λd y=>?_;refine lA (Bool.and_eq_true_iff.mp d) λd e=>?_;refine lA (Bool.and_eq_true_iff.mp e) λe f=>?_;refine lA (Bool.and_eq_true_iff.mp f) λf g=>?_;refine c ?_;exact .inr ⟨rfl,C,E,rfl,⟨⟨of_decide_eq_true d,of_decide_eq_true e⟩,of_decide_eq_true f,of_decide_eq_true g⟩,aa y⟩|_=>exact nn y
   |_=>exact nn y
theorem OX(h:qI e g)(i:HS e k l c)(n:j.depth+m<=990){y:XC}(o:tl a (g.a a) z=Z y)(p:lx k A z)(q:∀B C E d f b,(⟨a,B⟩:XC)=y->(∀F G,c.heap.get? F=Z G->C.get? F=Z G)->EX C d a (Z (f,b))->li c.heap<=d->li c.heap<=f->(B≠0->∃H,gJ "cause" b=Z (Z (.int B H)))->Q (.ref d) {c with heap:=C,toks:=E}):az (aC e.a e.w) j (bI (.ref a) A) Q J c:=by
 rcases E5 o with⟨r,s,rfl,d⟩|⟨r,t,u,rfl,F,d⟩;·refine tX (h a _ r) λv w x L M N O=>?_;refine ll p.mF λu P _=>?_;refine P▸?_;exact E4 i (y:=.a) (E:=0) L M N O ((Y [] [j.depth,m] ⟨[2,1],[],[.L (.p .a .b) (.k 990)],.T (.p .a (.k 5)) (.k 1000)⟩) n) (.inl ⟨rfl,⟨_,rfl⟩,rfl⟩) λC E R f b=>q 0 C E R f b d
 ·refine tX (h a _ r) λv w x L M N O=>?_;refine lP p.two λS T P U V=>?_;refine P▸?_;refine lp U.j λW P=>?_;refine P▸?_;refine lp V.j λX P=>?_;refine P▸?_;exact E4 i (y:=.b) (E:=t) L M N O ((Y [] [j.depth,m] ⟨[2,1],[],[.L (.p .a .b) (.k 990)],.T (.p .a (.k 5)) (.k 1000)⟩) n) (.inr ⟨rfl,W,u,X,rfl,F.1,F.2⟩) λC E R f b=>q t C E R f b d
theorem OY(u:qI e g)(v:Bx e g m p j h n t r){b}(a0:n.i y=Z (.i a))(a3:(y==("__debug__":aX))=ak)(a4:n.h a=I)(w:lL (lc z n) b=Z A)(x:FS e p n h r i s q o):ly e p j n h r (eO (.Raise (Z (.Call (.Name y a5) b [] B)) D a6) h) (lV g (kX g m) i (.b a A)) s q o:=by
 intro C;have E:∃z:List V->M (Ro×Fl),z=(λF=>match tl a (g.a a) F with|some y=>M.pure (i,.c y)|D=>M.b)/\lV g (kX g m) i (.b a A)=lN i (mw (kX g m) i A) z:=⟨_,rfl,rfl⟩;obtain⟨G,H,E⟩:=E;rw[E]at C⊢;refine lA (v.X.C.h a a4) λa7 a8=>mB a8 λJ L a9 b0=>?_;refine af (bC (OR (e:=J) (f:=L) b0 v.X.E.d (af (aK (Q:=RM (SE e p n h r s q o (lN i (mw (kX g m) i A) G q)) a (J.o a L)) ?_ (λb1 b2 b3=>af (bC (au b3))) λ_ _ b4=>b4))));rw[Mc];refine af (Aq v.X.C v.X.E x.at.H a0 a3 ?_);induction b with
 |nil=>obtain rfl:=oh w;have d:lN i (mw (kX g m) i []) G q=G [] q:=rfl;rw[d,H]at C;dsimp only at C;cases N:tl a (g.a a) []with|none=>rw[N]at C;exact absurd rfl C|some y=>rcases E5 N with⟨_,_,d,_⟩|⟨_,_,_,d,_⟩<;>contradiction
 |cons O b=>have P:=Am (d:=h) (v:=B) w;have Q:=v.X.h (p:=B) w x.at;refine lP (nB w) λb5 b6 c1 c2 c3=>?_;subst c3;rw[(by rw[rQ c1];rfl:bS B (bh (O::b) h)=(ak,bu O h)::bS B (bh b h))]at P Q⊢;refine dL (P:=e.K.In) (by refine P.symm▸?_;rfl) (vO a7) (dm (uH v x Q C λF c4 k l c c5 c6 R d0 d=>⟨R.at.H.K,?_⟩));rw[d]at C⊢;rw[H]at C⊢;dsimp only at C⊢;have S:=R.at.H;cases T:tl a (g.a a) c4 with|none=>replace C:=T▸C;exact absurd rfl C|some d1=>refine OX u S v.X.hd T d0 λd2 d3 U d f b d4 W y d5 d6 d7=>?_;have X:=raised (J:=U) v R W y d5 d6 d7 c6;obtain⟨d8,F,e0,e1,e2,e3,_⟩:=y;rw[d4]at X;exact⟨d,d8,F,rfl,W _ _ (S.K _ _ a9),e0,e1,e2,e3,X⟩
end
end
section
section
variable{j:Model}{k:aN}{l:ap->am->Prop}{a:dk}{d:Array GenState}{e:Drawn}{f:Nat}{g:OsState}
variable{m n:aX}{b o:aS}{p h:List ap}{q:Bool}{r:List aX}{s:List ap}{t:Bool}{u:Option Bool}{v:Option aS}{w x y z A:Option ap}{B:String}
variable{C E:aX}{c F:aS}{G i:List ap}{H:Bool}{J:List aX}{L:List ap}{M:Bool}{N:Option Bool}{O:Option aS}{P R S T U:Option ap}{V:String}
theorem OZ(W:a.get? b=Z (dI m n b o p h q r s t u v w x y z A B))(a0:a.get? c=Z (dI C E c F G i H J L M N O P R S T U V))(a3:a.get? a4=Z a5)(a6:a5.cls=.ref c)(a7:(aQ b::h).contains (.type "BaseException")=I)(a8:(aQ c::i).contains (.ref b)=X)(a9:Q X ⟨a,d,e,f,g⟩):az j k (excMatches (.ref a4) (.ref b)) Q l ⟨a,d,e,f,g⟩:=by
 have b0:=tc_notTuple;unfold excMatches;repeat(first|(with_reducible refine bU a3 ?_;refine a6▸?_)|with_reducible refine bU W ?_|(with_reducible refine dj W ?_;refine a7.symm▸?_)|(with_reducible refine dj a0 ?_;refine a8▸?_)|wp_step)
 induction X<;>(wp_walk;exact a9)
end
noncomputable def tC(a:Gd)(b:PT):Prop:=∀c d e,(b.a c).isSome=I->(b.a d).isSome=I->kh a.K c=Z e->e.mro.contains (.ref d)=b.j c d
section
variable{c:Gd}{l:List bL}{j u:aN}{g v w:Wd}{m x y:MS}{d z p:am}{f:PT}{n q o:Nat}{k:CC}{e:bL}{r A:Ro}{B:aX->Prop}{i C:Nat}{s:Nat->Prop}{t:Nat->aS}
theorem AN(a:nh c k)(b:Ev l j e k)(f:HS c g m d)(h:k.i E=Z F)(i:(E==("__debug__":aX))=ak)(n:∀G,VI g G F->Q G d):az (aC c.a c.w) u (bu (.Name E H) e) Q J d:=by refine lA (CC.q h) λo h=>ll (a.e _ _ h) λp q r=>?_;exact c_ b.a (b.sc E o) (gi (by refine b.e.symm▸?_;exact c.hg.keeps f.v) q (n _ (r g))) i
theorem Fs.h(a:Fs c (e::l) k e s t q r g m d)(b:e.frame=Z e.locals)(f:vY (lB (e::l)) d.heap E)(h:HS c g m {d with heap:=E}):Fs c (e::l) k e s t q r g m {d with heap:=E}:=by have i:∀{j:aS}{o:jb},d.heap.get? j=Z o->(∀p u,o.data≠.dict p u)->j∉lB (e::l):=λv w x=>mQ (a.t.K.at x) λy z A _=>mY A λp u B=>w p u (wZ z v▸B);refine a.to ⟨λ_ n=>nZ n λo p u v w C=>lp (f.2 e.locals ((qH b).symm▸aw ..) o v) λF G=>sa _ p u G w C,λH=>H,λH=>H,λJ L n=>ll n λo v w=>lQ o (f.1 _ o v (λ_=>Ct w) (i v λp u x=>dg (x.symm.trans w))) w,λ_ _ _ H=>H,λ_ _ _ H=>H⟩ (g.a) h (a.t.K.to (λM o p u N H w=>lp (f.2 M N o H) λF G=>⟨_,G,rfl⟩) (λ_ _ _ _ _ _ H=>H) (λ_ _ _ _ _ _ H=>H)) λO P Q R S G T U=>⟨G.imp λ_ V=>f.1 _ _ V (λ_=>wY rfl) (i V λp u x=>dg x),T,U⟩
noncomputable def AO(c:Gd)(j:aN)(e:bL)(a:Flow->am->Prop)(b:ap)(d:am)(f:List fq):Prop:=f≠[]/\az (aC c.a c.w) (j.mark (Z b)) (fU b D) (λ_ p=>az (aC c.a c.w) (j.mark (Z b)) (ig f e) a (λ_ _=>False) p) (λ_ _=>False) d
theorem AO.a(a:AO c j e Q b d h):dY (aC c.a c.w) (j.mark (Z b)) (.handlers b [.ExceptHandler D D h E] e) (λF G=>match F with|.ok H=>Q H G|.error J=>ka (aC c.a c.w) j e L J G) d:=by obtain⟨f,g⟩:=a;induction h with|nil=>exact absurd rfl f|cons i F=>exact codeAny_handlers_suite (aK g (λ_ _ k=>aK k (λ_ _ k=>k) λ_ _ k=>k.elim) λ_ _ k=>k.elim)
theorem XR.b(a:XR c o g h E d):∃F G,E=.ref F/\d.heap.get? F=Z G/\G.cls=.ref h.c:=by obtain⟨F,G,b,e,_,f,i,_⟩:=a;exact mh F G e f i
theorem E6(a:qI c f)(b:tC c f)(e:HS c g m d)(h:(f.a E.c).isSome=I)(k:(f.a i).isSome=I)(l:XR c o g E F d)(n:Q (f.j E.c i) d):az (aC c.a c.w) j (excMatches F (.ref i)) Q G d:=by refine lp (Option.isSome_iff_exists.mp h) λp q=>?_;refine lp (Option.isSome_iff_exists.mp k) λr s=>?_;refine sZ (a _ _ q) λ_ _ _ t _=>?_;refine sZ (a _ _ s) λ_ _ _ u _=>?_;refine lp u.obj λv w=>?_;refine lp t.obj λx y=>?_;refine lP l.b λz A B C H=>?_;refine B▸?_;obtain⟨J,L,M,N,O⟩:=d;exact OZ (e.K _ _ w.b) (e.K _ _ y.b) C H w.a (b E.c i _ h k (by unfold kh;rw[y.b];rfl)) n
theorem O0(a:oN f b ((i,h)::E)=Z F):(f.a b.c).isSome=I/\(f.a i).isSome=I/\((f.j b.c i=I/\h=F)\/(f.j b.c i=ak/\oN f b E=Z F)):=by refine lA (pX (a:(if(f.a b.c).isSome&&(f.a i).isSome then(if f.j b.c i then Z h else oN f b E)else D)=Z F)) λc d=>?_;refine lA (Bool.and_eq_true_iff.mp c) λc e=>?_;refine oz c e ?_;cases g:f.j b.c i with|true=>rw[g]at d;exact .inl ⟨rfl,aa d⟩|false=>rw[g]at d;exact .inr ⟨rfl,d⟩
theorem O1(a:qI c f)(b:tC c f)(h:nh c k)(n:Ev (e::l) j e k)(p:HS c g m d)(q:XR c o g E F d)(r:∀G,tt k G=H->AO c j e Q F d G)(J):∀{L:List (Nat×Hn)},lL (vF k) J=Z L->oN f E L=Z H->az (aC c.a c.w) j (handleBy F e J) Q N d:=by
 induction J with|nil=>exactλs t=>by exact nn ((oh s)▸t)|cons u J v=>
  intro L s t;obtain⟨⟨i,w⟩,x,y,z,rfl⟩:=nB s;refine H5 (J2 y) λA a0 G a3 B C M O=>?_;refine B▸?_;subst O;refine mj (O0 t) λP R S=>?_;refine wpAny_handleBy_cons (codeAny_handlers_test (AN h n p C M λa4 T=>?_)) (by refine mB q.b λs _ B _=>?_;cases B;exactλU=>nomatch U);refine T.q▸?_;refine E6 a b p P R q ?_;refine aB S (λV=>lA V λS W=>?_) (λX=>lA X λS W=>?_);·rw[S];exact(r _ W).a
  ·rw[S];exact v z W
end
end
section
section
variable{e:Gd}{j:List bL}{t y:aN}{o C p:Wd}{n E m:MS}{d A q:am}{s:PT}{u l F:Nat}{g:CC}{h:bL}{r w:Ro}{G:aX->Prop}{B H:Nat}{P:Nat->Prop}{z:Nat->aS}
noncomputable def O2(P:aj->V->Prop)(a:aj):ls->Prop|.f k=>P a k|_=>True
theorem Cm.f{P:aj->V->Prop}(a:Cm J g L N)(b:∀J O,P (.Constant .none J O) .g)(c:∀S J O,P (.Constant (.bool S) J O) (.h S))(e:∀T J O,P (.Constant (.int T) J O) (.a T))(f:∀(d:aX)J O,P (.Constant (.str d) J O) (.d d.cps.toList))(h:∀(i:aX)O U,(i==("__debug__":aX))=ak->g.i i=Z U->P (.Name i O) U):O2 P L N:=by induction a with|g=>exact b ..|h=>exact c ..|a=>exact e ..|d=>exact f ..|i j _ _ S=>exact h _ _ _ j S|@w k=>induction k<;>exact trivial|_=>exact trivial
theorem O3(B:nh e g)(a:Ev j t h g)(b:HS e o n d){c}(f:lc c g x=Z (.f k))(l:∀J L,VI o J k->N J {d with toks:=L}):az (aC e.a e.w) y (bu x h) N O d:=by
 induction c with|zero=>exact nn f|succ c=>
  refine(vD f).f (P:=λx k=>∀N:ap->am->Prop,(∀J L,VI o J k->N J {d with toks:=L})->az (aC e.a e.w) y (bu x h) N O d) (λ_ _ N l=>au (l _ d.toks .g)) (λ_ _ _ N l=>au (l _ d.toks (.h _))) (λm _ _ N l=>?_) (λi _ _ N l=>dh (l _ _ ?_)) (λi _ p q r N l=>AN B a b r q λJ s=>l J d.toks s) N l;·exact wpAny_mkInt (l _ _ (.a _ _))
  ·have:=VI.d (W:=o) i.cps.toList d.toks;simpa using this
theorem O4(a:h.scope.kind=.function)(b:(i==("__debug__":aX))=ak)(c:(i==("__classdict__":aX))=ak)(f:n_ o h d.heap i k)(g:Q k d):az (aC e.a e.w) y (bu (.Name i x) h) Q J d:=by exact iP (vJ a f (.inl c) g) b
theorem E7(a:h.scope.kind=.function)(b:(i==("__debug__":aX))=ak)(c:h.kindOf i≠Z .free)(f:n_ o h d.heap i k)(g:Q k d):az (aC e.a e.w) y (bu (.Name i x) h) Q J d:=by exact iP (vJ a f (.inr c) g) b
theorem O5(a:Bx e s u j t h g (NL g) l)(b:(c.endLine==f.line)=I)(k:(i==("__debug__":aX))=ak)(m:(x==("__debug__":aX))=ak)(p:(x==("__classdict__":aX))=ak)(q:g.a i=Z J)(v:g.b x=Z L)(w:FS e j g h l r o n d)(A:kZ J r=Z (.b N))(B:kZ L r=Z (.a O))(C:N.length<=4096)(E:∀S T,Ad e j h l o n d o n {d with heap:=S,toks:=T}->FS e j g h l (k9 J (.b (N++[O])) r) o n {d with heap:=S,toks:=T}->Q .next {d with heap:=S,toks:=T}):az (aC e.a e.w) y (ig [.Expr (.Call (.Attribute (.Name i a0) "append" c) [.Name x a3] [] f) a4] h) Q a5 d:=by
 refine lA (uI q) λF q=>?_;have G:eu h=ak:=by unfold eu;refine a.X.E.a▸?_;rfl
 refine gz λa6 a7=>?_;obtain⟨z,H⟩:=w;refine nc (H.a.1 J N trivial A) λa8 M a9 b0 b1=>ll M λR b2 U=>?_;refine ll (H.t.R x L O v B) λb3 b4 b5=>?_;refine a7 ?_;refine cE (fY ?_ G rfl);rw[En rfl b rfl (by show 1<30;decide)];refine af (E7 a.F.a k (by rcases a.F.g i F with A|A<;>(rw[A];decide):h.kindOf i≠Z .free) (a8 i q) ?_);refine af (bC (af (aT ?_)));obtain⟨V,W⟩:=b2;refine cH ⟨_,W,rfl⟩ dE gY gZ (λb6 c1=>by refine(fe c1)▸?_;exact lQ _ W rfl) ?_;refine dL (P:=e.K.In) rfl (uz _) (dm ?_);refine uK rfl (O4 a.F.a m p b5 (au ⟨H.t.H.K,?_⟩));refine er ⟨V,W⟩ (λS c2 X=>?_) (by refine aR▸?_;refine U.a▸?_;refine m5▸?_;exact lk C rfl);have c3:z J∉lB j:=λc4=>by refine mQ (H.t.K.at (a:=z J) (by refine(qH a.b)▸?_;exact aq _ c4)) λc5 c6 M _=>mY M λd0 d1 d2=>?_;exact tm c6 d2 W rfl
 exact dw (E S d.toks ⟨Gr.f (tk:=d.toks) X b1 c3,.f (tk:=d.toks) H.t.H X a9 b0 (xE ⟨V,W⟩) .c⟩ ⟨z,H.g (a0:=R) (E:=d.toks) A X (by simpa using c2:S.PlainList (z J) (R++[b3]).toArray) (U.snoc b4)⟩)
theorem O6(a:tt g b=.d k):∃c f,b=[.Return (Z c) f]/\lc 30 g c=Z (.f k):=by have d:=Dx g b;replace d:=a▸d;cases d with|d e=>exact r_ _ _ rfl e
theorem O7(a:tt g b=.a c f):∃i x J L N O S,b=[.Expr (.Call (.Attribute (.Name i x) "append" J) [.Name L N] [] O) S]/\(J.endLine==O.line)=I/\(i==("__debug__":aX))=ak/\(L==("__debug__":aX))=ak/\(L==("__classdict__":aX))=ak/\g.a i=Z c/\g.b L=Z f:=by have d:=Dx g b;replace d:=a▸d;cases d with|a e h j k l m=>exact⟨_,_,_,_,_,_,_,rfl,e,h,j,k,l,m⟩
structure pb(e:Gd)(j:List bL)(g:CC)(h:bL)(l v:Nat)(o:Wd)(n:MS)(d:am)(ρ₁:Ro)(i:XC)(k:ap)(p:Wd)(m:MS)(q:am):Prop where
 f:FS e j g h l ρ₁ p m q
 x:XR e (li d.heap) p i k q
 a:Ad e j h l o n d p ⟨m.σ,m.mu+v⟩ q
variable{v:Nat}{i:XC}{k:ap}
theorem pb.step(a:Bx e s u j t h g (NL g) l)(b:pb e j g h l v o n d w i k p m q)(c:Gr (lB (h::j)) (li d.heap) p ⟨m.σ,m.mu+v⟩ q p ⟨m.σ,m.mu+v+1⟩ {q with heap:=J})(f:HS e p m {q with heap:=J})(r:XR e (li d.heap) p i k {q with heap:=J})(x:vY (lB (h::j)) q.heap J)(y:l<=li d.heap):pb e j g h l (v+1) o n d w i k p m {q with heap:=J}:=⟨⟨_,b.f.choose_spec.h a.b x f⟩,r,⟨b.a.g.a (c.r y (λz A=>by rw[qH a.b];exact aq _ A) λz A=>by
 rw[qH a.b]at A;refine aB (List.mem_cons.mp A) (λA=>?_) (λA=>?_);·exact .inr (A▸a.lo)
 ·exact .inl A),b.a.t.j (.d (b.f.at.H.w _) c (al _) (f.w _) b.f.at.K.k .c)⟩⟩
theorem pb.note(a:Bx e s u j t h g (NL g) l)(b:pb e j g h l v o n d w i k p m q)(c:l<=li d.heap){f}(r:∀J,pb e j g h l (v+1) o n d w i k p m J->Q () J):az f t (jy k h) (λ_ A=>az f t (fU k D) Q L A) L q:=EW a.X.E.g a.b b.f.at.H b.f.at.K b.x b.a.g.i λ_ x y z B=>r _ (b.step a (x _ _ (gd _)) y z B c)
theorem pb.c(a:Bx e s u j t h g (NL g) l)(b:pb e j g h l v o n d w i k p m q)(c:l<=li d.heap){f}(r:∀J,pb e j g h l (v+1) o n d w i k p m J->Q () J):az f y (fU k D) Q L q:=Ov (g:=h) (k:=j) b.f.at.H b.f.at.K b.x λ_ x z A B=>r _ (b.step a (x _ _ (gd _)) z A B c)
theorem pb.b(a:pb e j g h l v o n d w i k p m q):FS e j g h l w p ⟨m.σ,m.mu+v⟩ q:=⟨_,⟨⟨a.f.at.H.w _,a.f.choose_spec.t.K,a.f.choose_spec.t.R,a.f.choose_spec.t.L⟩,a.f.choose_spec.b,a.f.choose_spec.a⟩⟩
noncomputable def O8(a:Ro->XC->M (Ro×Fl))(b:Ro×Fl):M (Ro×Fl):=match b.2 with|.c c=>a b.1 c|_=>M.pure b
theorem E8(a:Bx e s u j t h g (NL g) l)(b:p7 e s u){c}(f:mK c g x=Z J)(v:FS e j g h l r o n d){L:Ro->XC->M (Ro×Fl)}(w:∀N i k p m O,pb e j g h l 2 o n d N i k p m O->L N i m≠.b->az (aC e.a e.w) t (handleBy k h (S::T)) (SQ e j g h l o n d (L N i m)) (SE e j g h l o n d (L N i m)) O):ly e j t g h l (eO (.Try x (S::T) [] [] U) h) (M.bind (lH (kX s u) J r) (O8 L)) o n d:=by
 intro y;have z:t.depth+u<=990:=iC a.X.hd;refine wpAny_Try_except (aK (tx b a.X.C a.X.E a.F a.b a.lo z (by have:=a.X.c;exact s5 this:t.units+8*u<=9000) f v (λA=>y (by unfold M.bind;exact A.symm▸rfl):lH (kX s u) J r n≠.b)) (λB q A=>?_) λk q A=>?_);·obtain⟨N,C,m,p,E,F,G,H⟩:=A;refine(M.lO E)▸?_;induction B<;>induction C<;>first|exact H.elim|exact⟨N,_,m,p,rfl,F,G,H⟩|exact dw ⟨N,_,m,p,rfl,F,G,H⟩
 ·obtain⟨N,i,m,p,E,F,G,P⟩:=A;rw[M.lO E]at y⊢;exact pb.note a ⟨G,P,F⟩ (v.li a.lo) λO z=>w N i k p m O z y
theorem O9(a:qX r (.a b c) n≠.b):∃f x,kZ b r=Z (.b f)/\kZ c r=Z (.a x)/\f.length<=4096/\qX r (.a b c) n=.ok (k9 b (.b (f++[x])) r,.a) n:=by
 unfold qX at a⊢;dsimp only at a⊢;cases d:kZ b r with|none=>replace a:=d▸a;exact absurd rfl a|some e=>rw[d]at a;induction e with|a _=>exact absurd rfl a|b f=>cases g:kZ c r with|none=>replace a:=g▸a;exact absurd rfl a|some h=>rw[g]at a;induction h with
  |b _=>exact absurd rfl a
  |a x=>dsimp only at a⊢;by_cases i:f.length<=4096;·exact t0 f x rfl rfl i (by refine(if_pos i)▸?_;rfl)
        ·rw[if_neg i]at a;exact absurd rfl a
theorem O_(a:qI e s)(b:tC e s)(c:Bx e s u j t h g (NL g) l)(f:p7 e s u){x}{J}(q:mK x g L=Z N)(v:lL (vF g) (O::S)=Z J)(w:FS e j g h l r o n d):ly e j t g h l (eO (.Try L (O::S) [] [] a0) h) (lV s (kX s u) r (.l N J)) o n d:=by refine E8 c f q w (L:=λr y=>match oN s y J with|some T=>λn=>qX r T ⟨n.σ,n.mu+3⟩|D=>M.b) λz i k p m a3 A B=>?_;cases C:oN s i J with|none=>rw[C]at B;exact absurd rfl B|some E=>rw[C]at B;dsimp only at B⊢;have F:=w.li c.lo;refine O1 a b c.X.C c.X.E A.f.at.H A.x (λa4 G=>?_) _ v C;induction E with|lX=>exact absurd rfl B|d H=>refine mB (O6 G) λy a5 P Q=>?_;subst P;refine n0 (iH _ _) (A.c c F λR U=>cE (jk (O3 c.X.C c.X.E U.f.at.H Q λa6 V W=>?_)));exact⟨z,.d H,_,p,rfl,U.a.a ⟨Gr.g _ _ _ _,.d U.b.at.H (Gr.g _ _ _ V) (al _) (U.b.at.H.g V) U.f.at.K.k .c⟩,U.b.d (Gr.g _ _ _ V) (U.b.at.H.g V),W⟩|a a7 a8=>refine gz λa9 X=>?_;obtain⟨i,b0,b1,b2,b3,b4,b5,rfl,b6,c1,c2,c3,c4,c5⟩:=O7 G;refine sY (O9 B) λc6 H d0 d1 d2 d3=>?_;refine X ?_;refine d3▸?_;exact n0 (iH _ _) (A.c c F λR U=>O5 c b6 c1 c2 c3 c4 c5 U.b d0 d1 d2 λd4 V d5 d6=>⟨_,.a,_,p,rfl,U.a.a d5,d6,trivial⟩)
end
end
section
open Builtin Builtin.ObjectAttr
structure uM(K:ew)(C:aS)(name:aX):Prop where
 ga:dH K (.ref C) "__getattribute__"=Z (Z (.builtin "BaseException.__getattribute__"))gt:dH K (.ref C) "__getattr__"=Z D
 b:dH K (.ref C) name=Z D
 m:eN K C=I
 l:mroIn K C (.type "BaseException")=Z I
section
variable{b:eT}{c:iF}{e:aN}{d:ew}{a:am}{f:ap->am->Prop}
theorem Pa(g:d.In a.heap)(h:InstAt a.heap i j k (Z (dG l m)))(n:uM d k o)(p:gJ o l=Z (Z q))(r:handedIn q=I)(s:∀t,Q q {a with toks:=t}):az (aC b c) e (getAttr (.ref i) o u) Q f a:=by
 have v:=PySem.F.attrBase_ValueError;have w:=h.type (M:=aC b c);have x:=g_ (M:=aC b c) g n.gt;have y:findObj d k (Z (dG l m)) o=Z (.value q):=findObj_own n.m n.b rfl (p);have z:=looks_find (M:=aC b c) g h y;have A:=looks_mroIn (M:=aC b c) g n.l;have B:(jB "BaseException.__getattribute__"==jB "object.__getattribute__")=ak:=by rfl
 delta getAttr getAttrBy;refine af (wpAny_mkText (aT (af (w.at (af ((g_ (M:=aC b c) g n.ga).at ?_))))));dsimp only;delta getAttrByItsOwn hookBefore;refine af (x.at (af (wpAny_attempt (aT ?_))));delta callGetattribute;dsimp only;rw[show(u&&onTheHeap (jB "BaseException.__getattribute__"))=ak by induction u<;>rfl];unfold boundAndCalled;refine af (au ?_);refine en (fi v.ga.plain PySem.F.entry_bexc_ga (@check_slot (aC b c) _ _ {a with toks:=a.toks+1} "BaseException.__getattribute__" "BaseException" "__getattribute__" (.ref i) [.str o a.toks] [] _ (by rfl:builtinKind "BaseException.__getattribute__"=Z .slot) (by rfl:splitId "BaseException.__getattribute__"=Z ("BaseException","__getattribute__")) (h.type.andThen A) (PySem.F.args_bexc_ga (.ref i) (.str o a.toks)) ?_));refine af (au (af (au (af (w.at (af (z.at ?_)))))));refine au ?_;show az _ _ (handedOut q) _ _ _;refine(handedOut_of r)▸?_;exact au (s _)
end
end
section
section
variable{e:Gd}{l:List bL}{m u:aN}{f w s:Wd}{g x n:MS}{b r t:am}{k:PT}{o j y:Nat}{h:CC}{d:bL}{p v:Ro}{z:aX->Prop}{i A:Nat}{B:Nat->Prop}{q:Nat->aS}
theorem FS.c(a:FS e l h d j p f g b):FS e l h d j [] f g b:=by refine gz λc i=>?_;obtain⟨q,k⟩:=a;refine i ?_;exact⟨q,⟨k.t.H,k.t.K,λm n o _ r=>(nn r),k.t.L⟩,k.b,λn s _ r=>(nn r),λn t s u _ _ r=>(nn r)⟩
theorem Pb{a}(c:d.scope.kind=.function)(e:Ar d C)(g:d.kindOf C=Z .cell->∃E,d.cells.lookup C=Z E)(h:pA f d b)(i:∀C F E,d.cells.lookup C=Z E->d.cells.lookup F=Z E->C=F)(j:∀G H,bA (m6 d C) b.heap G->((∃J L,b.heap.Ns (m6 d C) J/\G.Ns (m6 d C) L)\/(∃N,b.heap.IsCell (m6 d C) N))->pA f d {b with heap:=G,toks:=H}->Q () {b with heap:=G,toks:=H}):az a m (do kb d C .none;unbindBehindTheSuite d C O) Q a0 b:=by
 obtain⟨⟨J,k⟩,l,n,o⟩:=h;have p:(d.scope.kind==.class||(d.scope.kind==.module&&d.locals !=d.globals))=ak:=by refine c▸?_;rfl
 by_cases q:d.kindOf C=Z .local;·have r:m6 d C=d.locals:=if_pos q;replace j:=r▸j;refine wpAny_nameGoes q k p λG L s t=>j G _ t (.inl ⟨J,L,k,s⟩) ⟨⟨L,s⟩,l,n,λF E u=>?_⟩;refine mj (o F E u) λv w x=>lp x λy z=>?_;exact⟨v,w,y,z.sameBut t λA=>by subst A;exact rS k z⟩
 ·have u:d.kindOf C=Z .cell:=e.resolve_left q;refine lp (g u) λE B=>?_;replace j:=(by unfold m6;refine(if_neg q)▸?_;refine B▸?_;rfl:m6 d C=E).symm▸j;refine mj (o C E B) λa3 a4 x=>lp x λy M=>?_;refine af (j9 (wpAny_storeName_cell c u B M λa5 P R=>?_));refine wpAny_onRaise ?_;refine af (wpAny_point (af ?_));unfold deleteName;simp only[u,p];refine af (wpAny_cellOf B (af (wpAny_cellGet P ?_)));refine(if_pos (show(Z bW).isSome=I from rfl))▸?_;refine wpAny_cellSet P λS T U=>wpAny_point (j S b.toks (R.trans U) (.inr ⟨y,M⟩) ⟨⟨J,(k.sameBut R λA=>?_).sameBut U λA=>?_⟩,l,n,λF V W=>?_⟩);·subst A;exact rS k M
  ·subst A;exact rS k M
  ·refine mj (o F V W) λv w x=>lp x λX z=>?_;by_cases A:V=E;·cases A;exact⟨v,w,_,T⟩
   ·exact⟨v,w,X,(z.sameBut R A).sameBut U A⟩
theorem FS.stN(a:FS e l h d j [] f g b)(c:bA C b.heap E)(i:(∃F G,b.heap.Ns C F/\E.Ns C G)\/(∃H,b.heap.IsCell C H))(k:C∉f.as)(m:f.φ C=D)(n:pA f d {b with heap:=E,toks:=J}):FS e l h d j [] f g {b with heap:=E,toks:=J}:=by obtain⟨q,o⟩:=a;exact⟨q,⟨o.t.H.f c k m,o.t.K.f c i,λp r s _ t=>(nn t),n.cl⟩,n,λr u _ t=>(nn t),λr v u w _ _ t=>(nn t)⟩
theorem Pc{a c:dk}(b:(∃C E,a.Ns F C/\c.Ns F E)\/(∃G,a.IsCell F G)):∃H,a.get? F=Z H/\∀J,H.data≠.fields J:=by
 rcases b with⟨C,E,⟨H,d,e,f,g,_⟩,_⟩|⟨h,H,f,g⟩;·exact lQ H f (λJ i=>by rw[g]at i;contradiction)
 ·exact lQ H f (λJ i=>by rw[g]at i;contradiction)
theorem Pd(a:qI e k)(b:tC e k)(c:k.a i=Z C):k.j i i=I:=by
 refine sZ (a _ _ c) λ_ _ _ d _=>?_;refine lp d.obj λf g=>?_;have h:(k.a i).isSome=I:=by refine c▸?_;rfl
 refine(b i i _ h h (show kh e.K i=Z _ by unfold kh;rw[g.b];rfl)).symm.trans ?_;simp
theorem Pe(a:j<=d.locals)(c:FS e l h d j p f g b)(i:C.isFreed=ak)(E):FS e l h d j p (f.b (li b.heap) C) g {b with heap:=b.heap.push C,toks:=E}/\Ad e l d j f g b (f.b (li b.heap) C) g {b with heap:=b.heap.push C,toks:=E}:=by have k:=c.at.H;have m:∀n o,b.heap.get? n=Z o->(b.heap.push C).get? n=Z o:=λn o q=>av _ q;have r:=(k.h (tk:=E) m).m (s:={b with heap:=b.heap.push C,toks:=E}) (aU _ i) k.B k.z;have s:∀{t:List aS}{u:Nat},u<=li b.heap->Gr t u f g b (f.b (li b.heap) C) g {b with heap:=b.heap.push C,toks:=E}:=λv=>(Gr.h (tk:=E) m (by unfold li;rw[aV];exact aL _:li b.heap<=li (b.heap.push C))).j (Gr.m k.z v) (al _);exact⟨c.d (s (al _)) r,⟨s (c.li a),.d k (s (al _)) (al _) r c.at.K.k .c⟩⟩
theorem Pf(a:d.scope.kind=.function)(c:(C==("__debug__":aX))=ak)(g:d.kindOf C≠Z .free)(h:n_ f d b.heap C (.ref E))(j:e.K.In b.heap)(k:InstAt b.heap E F i (Z (dG G H)))(l:uM e.K i "cause")(m:gJ "cause" G=Z (Z (.int J L)))(n:∀N,Q (.ret (.ref (li b.heap))) {b with heap:=b.heap.push (on [.int J L]),toks:=N}):az (aC e.a e.w) u (ig [.Return (Z (.Tuple [.Attribute (.Name C O) "cause" P] S T)) U] d) Q W b:=by refine cE (jk ?_);refine af (bC (af (uK rfl ?_)));refine af (E7 a c g h (af (bC (af (aT (Pa j k l m rfl λo=>af (iu (au (au ?_)))))))));exact j0 (n _) (by show 1<=_;refine m5.symm▸?_;decide)
theorem XR.a(a:XR e o f c C b)(d:c.a≠0)(h:bA E b.heap F)(i:∃G,b.heap.get? E=Z G/\∀H,G.data≠.fields H)(j:HS e f g {b with heap:=F}):∃J L N O P,C=.ref J/\InstAt F J L c.c (Z (dG N O))/\gJ "cause" N=Z (Z (.int c.a P)):=by
 refine gz λk l=>?_;obtain⟨J,L,H,m,_,n,p,q,_,_,_,r⟩:=a;refine yR (r d) λs N O P t u v=>?_;refine l ?_;have w:J≠E:=λx=>by refine ll i λG y z=>?_;rw[←x,n]at y;exact z _ (aa y▸q)
 exact⟨J,L,N,O,P,m,⟨(h.2 J w).trans n,p,by unfold notCls;exact q▸rfl,by refine t▸?_;exact j.j _ _ u⟩,v⟩
theorem Pg(a:Bx e k o l m d h (NL h) j){c:aX}{i:Flow->am->Prop}{C:ap->am->Prop}(p:NL h c)(q:(c==("__debug__":aX))=ak)(u:pb e l h d j 2 f g b v E F s n t)(w:j<=li b.heap)(x:E.a≠0)(y:uM e.K E.c "cause")(z:∀G r,SQ e l h d j f g b (.ok ([],.d (.e [.a E.a])) ⟨n.σ,n.mu+3⟩) G r->i G r):dY (aC e.a e.w) (m.mark (Z F)) (.handlers F [.ExceptHandler D (Z c) [.Return (Z (.Tuple [.Attribute (.Name c a0) "cause" a3] a4 a5)) a6] H] d) (λJ L=>match J with|.ok G=>az (aC e.a e.w) m (do kb d c .none;unbindBehindTheSuite d c H) (λ_ N=>i G N) C L|.error O=>ka (aC e.a e.w) m d C O L) t:=by
 refine codeAny_handlers_suite_as (u.c a w λL A=>?_);have B:=A.b.c;refine vR a.F.a (a.F.g c p) a.F.b (a.F.cx c) B.b λa7 M P=>?_;have Q:=B.stN P.a P.c P.g P.e (P.b _ rfl B.b M);refine H7 (A.x.a x P.a P.d (B.at.H.f (tk:=L.toks) P.a P.g P.e)) λa8 a9 b0 b1 R b2 b3 b4=>?_;subst b2;have b5:d.kindOf c≠Z .free:=by rcases a.F.g c p with S|S<;>(rw[S];decide)
 refine Pf a.F.a q b5 P.f Q.at.H.K b3 y b4 λb6=>?_;refine lA (Pe (C:=on [.int E.a R]) a.lo Q rfl b6) λT c1=>?_;have U:=(sD (d:=on [.int E.a R]) (λc2=>by refine lp P.live λV S=>?_;rw[c2]at S;exact aZ _ (nJ S))).trans P.e;exact Pb a.F.a (a.F.g c p) (a.F.cx c) T.b a.F.b λc3 c4 W X c5=>z _ _ ⟨[],.d (.e [.a E.a]),_,_,rfl,((A.a.a ⟨Gr.f (tk:=M) P.a (a.F.lo c p) (a.F.e c p),.f B.at.H P.a P.g P.e P.d .c⟩).a c1).a ⟨Gr.f W (a.F.lo c p) (a.F.e c p),.f T.at.H W P.g U (Pc X) .c⟩,T.stN W X P.g U c5,.e (Wd.c _ _ _) rfl rfl (.b (.a _ _) .c)⟩
theorem Ph(a:qI e k)(c:tC e k)(q:∀i C,k.a i=Z C->uM e.K i "cause")(r:Bx e k o l m d h (NL h) j)(t:p7 e k o)(u:mK C h E=Z F)(v:h.i G=Z (.i i))(w:(G==("__debug__":aX))=ak)(x:(H==("__debug__":aX))=ak)(y:NL h H)(z:FS e l h d j p f g b):ly e l m h d j (eO (.Try E [.ExceptHandler (Z (.Name G a0)) (Z H) [.Return (Z (.Tuple [.Attribute (.Name H J) "cause" L] N O)) P] S] [] [] a3) d) (lV k (kX k o) p (.s F i)) f g b:=by refine E8 r t u z (L:=λ_ A=>if A.c==i&&(k.a i).isSome&&A.a !=0 thenλg=>.ok ([],.d (.e [.a A.a])) ⟨g.σ,g.mu+3⟩else M.b) λa4 B a5 s n a6 Q R=>?_;cases T:(B.c==i&&(k.a i).isSome&&B.a !=0)with|false=>rw[T]at R;exact absurd rfl R|true=>refine gz λa7 U=>?_;refine lA (Bool.and_eq_true_iff.mp T) λT a8=>?_;refine lA (Bool.and_eq_true_iff.mp T) λa9 V=>?_;obtain rfl:=aG a9;refine lp (Option.isSome_iff_exists.mp V) λb0 W=>?_;refine U ?_;refine wpAny_handleBy_cons (codeAny_handlers_test (AN r.X.C r.X.E Q.f.at.H v w λb1 b2=>?_)) (by refine mB Q.x.b λA _ b3 _=>?_;refine b3▸?_;exactλX=>nomatch X);rw[b2.q];refine E6 a c Q.f.at.H V V Q.x ?_;refine(Pd a c W).symm▸?_;exact(Pg (a0:=J) (a3:=L) (a5:=O) (a6:=P) (H:=S) (a4:=N) (C:=SE e l h d j f g b (.ok ([],.d (.e [.a B.a])) ⟨n.σ,n.mu+3⟩)) r y x Q (z.li r.lo) (bne_iff_ne.mp a8) (q _ _ W) λ_ _ X=>X)
end
end
section
structure xL(G:Gd)(T:PT):Prop where
 a:TF G T
 io:∀C f,T.c C=Z f->uB G C f
 fn:∀f fn,T.fn f=Z fn->∃o fd cc body names dvs,xI G f fn o fd cc body names dvs
 b:qI G T
 sb:tC G T
 c:∀C k,T.a C=Z k->uM G.K C "cause"
section
variable{c:Gd}{f:List bL}{j:aN}{k g:Wd}{l o:MS}{m p:am}{d:PT}{b h:Nat}{a:CC}{e:bL}{n i:Ro}
theorem Pi(g:∀q,q<=b->Ok c d q)(i:Bx c d b f j e a (NL a) h)(o:a.a r=Z s)(p:lc (t+1) a u=Z v)(w:FS c f a e h n k l m):ly c f j a e h (eO (.Assign [.Name r x] u y) e) (lV d (kX d b) n (.f s v)) k l m:=by
 cases z:vE u with|true=>exact EO i (NJ z p) o p w|false=>
  induction(vD p)with
  |@lc A B C E F G H J L M N O P Q R=>obtain⟨S,T⟩:=H;obtain⟨U,V⟩:∃U,∀B C E,fT (.ListComp A [⟨B,C,E,0⟩] F G) (Z (.Name r x)) y.line e=ba U:=⟨(e.blockKind==.function&&e.kindOf r==Z .local&&x.line==G.line&&!(F.names.any λ(b,t)=>b==r&&(t==.local||t==.cell))),λ_ _ _=>rfl⟩;induction U with|false=>exact EO i (V _ _ _) o p w|true=>induction b with|zero=>exact ly.e ly.b rfl|succ q=>exact N6 i (i.X.at (g q (aL q)) (aL q)) (V _ _ _) o N O P Q R w
  |_=>exact bw z
theorem Pj(g:TF c d)(i:Bx c d b f j e a (NL a) h)(o:lc q a r=Z s)(p:a.id t=Z u)(v:FS c f a e h n k l m):ly c f j a e h (eO (.Assign [.Attribute r t w] (.List [] x) y) e) (lV d (kX d b) n (.i s u .h)) k l m:=by rw[tz rfl rfl rfl];refine ly.d (ly.lN i v (Ea v.at b) λz A B C E F G H=>?_);rw[arm_assign_Attribute,du];refine ly.lN i G (kY.a (i.X.ev o G.at)) λJ L M N O P Q R=>?_;rw[du];refine ly.d ?_;rw[du];rw[←(i.X.C.d _ _ p)];refine ly.lN i Q (kY.a (zW g.g R (H.k P.le) Q.at.H Q.e)) λ_ _ S T U V W _=>?_;exactλ_=>af (eX (au (SQ.a W trivial)))
theorem ly.lX:ly c f j a e h q (lH (kX d (b+1)) [.lX] n) k l m:=ly.mF (ly.b)
theorem Pk(o:xL c d)(p:∀q,q<=b->Ok c d q):p7 c d (b+1):=by intro r s a e j f k l m n t h u v w x y z A B C;have E:=p b (al _);have F:Bx c d b f j e a (NL a) h:=⟨⟨E.iv,E.it,E.d,v,w,A,B⟩,x,y,z⟩;clear v w z A B;induction t with|zero=>exact nn u|succ t=>have G:=DI u;clear u;induction G with|b H=>exact ly.mF (NQ F H C)|f H J=>exact ly.h x (ra a _) C λi g L=>Pi p F H J L|c M H J=>exact ly.h x (ra a _) C λi g L=>Oi F M H J L|m H J=>exact ly.mF (Pj o.a F H J C)|i H J N=>exact ly.h x (ra a _) C λi g L=>NK o.a F H J N L|n H J N=>exact ly.h x (ra a _) C λi g L=>NM F H J N L|p H J=>exact ly.h x (ra a _) C λi g L=>NP F H J L|q H J N=>exact ly.h x (ra a _) C λi g L=>NN o.a F H J N L|j H J N O=>exact ly.mF (NS F H J N O C)|o H J N O=>exact ly.mF (NU F H J N O C)|g P H=>exact ly.h x (ra a _) C λi g L=>NE F P H L|k H J N=>exact ly.h x (ra a _) C λi g L=>NI F E.a H J N L|a H J=>exact ly.mF (On F p H J C)|h H J N=>exact ly.h x (ra a _) C λi g L=>N0 F E.a H J N L|d H=>exact ly.h x (ra a _) C λi g L=>NF F H L|o0=>exact ly.mF (NG C)|e=>exact ly.mF (NH C)|raise H J N O=>exact ly.mF (OY o.b F H J N O C)|r H J N O Q=>exact ly.mF (Ph o.b o.sb o.c F E.a Q H J N (by refine ah (congrArg _ O) ?_;rfl) C)|l H J=>exact ly.mF (O_ o.b o.sb F E.a H J C)|lX=>exact ly.lX
theorem Pl:q++[r]≠[]:=λa=>by cases q<;>cases a
theorem Pm{b}(c:vG q a b=Z r):r≠[]:=by induction q with|zero=>exact nn c|succ q=>have d:=DI c;clear c;induction d<;>first|exact Pl|exact iH _ _
theorem Pn(g:xL c d):∀b,(∀q,q<=b->Ok c d q):=by
 intro b;induction b with|zero=>
  intro q i;obtain rfl:q=0:=Nat.le_zero.mp i;have o:p7 c d 0:=by intro p r a e j f k l m n s h t u v w x y z A B;induction r with|nil=>exact absurd rfl (Pm t)|cons C E=>exact ly.b
  exact⟨λ_ _ _ _ _ _=>kY.b,λ_ _ _ _ _ _=>kY.b,λ_ _ _ _ _ _ _ t=>absurd rfl t,o⟩|succ b F=>
  intro q i;refine aB (jV q (b+1)) (λt=>?_) (λt=>?_);·exact F q (Nat.le_of_lt_succ t)
  ·obtain rfl:q=b+1:=gG i t;have G:=F b (al _);exact⟨Nt g.a g.io G.iv G.it G.d,Nw g.a g.io G.iv G.it G.d,OC g.fn G.a,Pk g F⟩
end
end
section
noncomputable def pE{a:Type}(b:Option a)(c:a->Bool):Bool:=match b with|some d=>c d|D=>ak
noncomputable def uN(a:Data)(b:dW->Bool):Bool:=match a with|.func c=>b c|_=>ak
noncomputable def E9(a:Data)(b:List ap->Bool):Bool:=match a with|.seq c _=>b c.toList|_=>ak
noncomputable def v4{a:Type}(b:Data)(c:dW->Option a):Option a:=match b with|.func d=>c d|_=>D
section
variable{b:Type}{c:Prop}{a:Data}
theorem uO{d:Option b}{e:b->Bool}(a:pE d e=I)(f:∀g,d=Z g->e g=I->c):c:=by induction d with|none=>exact ft a|some g=>exact f g rfl a
theorem E_(b:uN a d=I)(e:∀f,a=.func f->d f=I->c):c:=by induction a with|func f=>exact e f rfl b|_=>exact ft b
theorem Po(b:E9 a d=I)(e:∀f g,a=.seq f g->d f.toList=I->c):c:=by induction a with|seq f g=>exact e f g rfl b|_=>exact ft b
theorem AP{d:Option b}{e:b->Bool}{f:b}(a:pE d e=I)(c:d=Z f):e f=I:=by cases c;exact a
theorem Fa{d:Type}{e:Option b}{f:b->Option d}{g:b}{h:d}(a:lG e f=Z h)(c:e=Z g):f g=Z h:=by cases c;exact a
theorem Fb{d:Type}{e:dW->Option d}{f:d}(b:v4 a e=Z f)(c:a=.func g):e g=Z f:=by cases c;exact b
theorem Pp(b:uN a d=I)(c:a=.func e):d e=I:=by cases c;exact b
end
noncomputable def v5(a:ap)(b:V):Bool:=match b with
 |.g=>a==.none|.h c=>a==.bool c|.a d=>match a with|.int e _=>aE (e=d)|_=>ak
 |.d f=>match a with|.str g _=>aE (g.cps.toList=f)|_=>ak
 |.i c=>match a with|.ref e=>ki e c|_=>ak
 |_=>ak
theorem Fc(a:v5 b c=I)(d):VI d b c:=by
 cases c with
 |g=>exact(aG a).symm▸.g|h e=>exact(aG a)▸(.h _)|a f=>induction b with|int g h=>exact(show g=f from of_decide_eq_true a)▸(.a _ _)|_=>exact ft a
 |d i=>induction b with|str j h=>have:=VI.d (W:=d) j.cps.toList h;refine((of_decide_eq_true a:j.cps.toList=i))▸?_;simpa using this|_=>exact ft a
 |i e=>induction b with|ref g=>exact(show g=e from cm a)▸(.i _)|_=>exact ft a
 |_=>exact ft a
noncomputable def v6:List ap->List V->Bool|[],a=>a.isEmpty|b::c,a=>match a with|d::a=>v5 b d&&v6 c a|[]=>ak
theorem Pq:∀{a:List V},v6 b a=I->∀c,lx c b a:=by induction b with|nil=>exactλd c=>by exact(List.isEmpty_iff.mp d).symm▸.c|cons e b f=>intro a d c;induction a with|nil=>exact ft d|cons g a=>refine lA (Bool.and_eq_true_iff.mp (show(v5 e g&&v6 b a)=I from d)) λh i=>?_;exact .b (Fc h c) (f i c)
theorem Ps:∀{a:List aX}{b:aX}{c d:Nat},tp b a c=Z d->c<=d/\a[d-c]?=Z b:=by
 intro e
 induction e with|nil=>
  intro _ _ _ f;cases f|cons g h i=>
  intro b c d f;have f:(bif gL b g then Z c else tp b h (c+1))=Z d:=f
  cases j:gL b g with|true=>
   replace f:=j▸f;cases f;rw[gn,PySem.W.Fast.sEq_iff.mp j];exact⟨al _,rfl⟩|false=>
   replace f:=j.symm▸f;refine lA (i f) λk l=>?_;refine⟨vh k,?_⟩;have:d-c=d-(c+1)+1:=by exact(Y [] [c,d] ⟨[1,3,2,4],[.s .b .a,.s .b (.p .a .u)],[.L (.p .a .u) .b],.E .c (.p .d .u)⟩) k
   refine this▸?_;exact l
noncomputable def na(a:List aX)(b:Nat):aX:=match a[b]? with|some c=>c|D=>⟨#[1114112+b]⟩
noncomputable def AQ(a:List aX):Bool:=aE a.Nodup&&a.all λb=>b.cps.toList.all (·<1114112)
theorem Pt(a:AQ b=I):∀c d,na b c=na b d->c=d:=by
 unfold AQ at a;simp only[aJ,decide_eq_true_eq,dB]at a;refine lA a λe f=>?_;intro c d g;unfold na at g;cases h:b[c]? with
 |some i=>cases j:b[d]? with|some k=>rw[h,j]at g;dsimp only at g;subst g;exact Cv e h j|none=>rw[h]at g;replace g:=j▸g;dsimp only at g;have:=f i (aH h) (1114112+d) (by refine g▸?_;simp);exact(Y [] [d,c] ⟨[2,1],[],[.T (.p (.k 1114112) .a) (.k 1114112)],.E .b .a⟩) this
 |none=>cases j:b[d]? with|some k=>rw[h,j]at g;dsimp only at g;have:=f k (aH j) (1114112+c) (by refine g▸?_;simp);exact(Y [] [c,d] ⟨[2,1],[],[.T (.p (.k 1114112) .a) (.k 1114112)],.E .a .b⟩) this|none=>rw[h,j]at g;have:=congrArg Str.cps g;simp at this;exact this
theorem xM(a:tp b c 0=Z d):na c d=b:=by refine lA (Ps a) λ_ e=>?_;unfold na;exact e▸rfl
structure nO where
 d:List aX
 gt:List (Nat×V)c:List Nat
 h:List Nat
 g:List (Nat×Fn)m:List (Nat×List (Nat×Nat))n:List (Nat×Nat)j:List (Nat×List Nat)p:Nat
 o:List (List Nat×Int)a:List (Nat×XK)f:Nat
 k:Nat
 b:Nat
 i:Nat
 l:Nat
noncomputable def nO.e(a:nO)(b:aX):Option V:=lG (tp b a.d 0) λc=>a.gt.lookup c
noncomputable def nO.cc(a:nO)(b:List (aX×b8))(c:List aX):CC:={d:=a.d,e:=a.e,c:=λd=>a.c.contains d,g:=λd=>(a.g.lookup d).isSome,h:=λd=>a.h.contains d,sc:=b,j:=c}
noncomputable def nO.pt(a:nO):PT where fn:=λb=>a.g.lookup b;h:=λc d=>(a.m.lookup c).bind λe=>e.lookup d;c:=λc=>a.n.lookup c;a:=λc=>a.a.lookup c;j:=λf g=>f==g;d:=λf=>if f==a.p then Z a.o else D;e:=λc d=>(a.j.lookup c).any λe=>e.contains d;g:=λc d=>(a.j.lookup c).any λe=>e.contains d;f:=a.f;k:=a.k;b:=a.b;i:=a.i;l:=a.l
noncomputable def v7:List ap:=[.type "ValueError",.type "Exception",.type "BaseException",.type "object"]
noncomputable def tD:List ap->List ap|.ref _::a=>tD a|b=>b
theorem Pu(a):∀{b:List ap},tD b=v7->refuseLoop a "__setattr__" b=ba ():=by
 intro c
 induction c with|nil=>
  intro d;cases d|cons e f g=>
  intro d;by_cases h:∃i,e=.ref i;·refine lp h λi j=>?_;subst j;rw[refuseLoop_ref];exact g d
  ·have k:tD (e::f)=e::f:=by cases e<;>first|rfl|exact absurd ⟨_,rfl⟩ h
   replace d:=k▸d;refine d▸?_;exact PySem.F.store_ValueError.passes a
noncomputable def Fd(a:Nat)(b:Array (Option ap))(c:iA):Bool:=(c.mro==aQ a::c.mro.tail)&&((b.toList==[b.getD 0 D,b.getD 1 D,b.getD 2 D,b.getD 3 D,Z (.builtin "ValueError.__new__"),b.getD 5 D])&&(!c.hasDel&&((tD c.mro==v7)&&((aQ a::c.mro.tail).contains (.type "ValueError")&&(!(aQ a::c.mro.tail).contains (.type "AttributeError")&&(!(aQ a::c.mro.tail).contains (.type "NameError")&&(aQ a::c.mro.tail).contains (.type "BaseException")))))))
noncomputable def Pv(a:Nat)(b:jb):Bool:=(b.cls==.type "type")&&(match b.data with|.cls c=>Fd a b.slots c|_=>ak)
noncomputable def AR(a:ew)(b:Nat):Bool:=(a.lookup b).any (Pv b)
theorem Pw{a:Array (Option ap)}(b:Fd c a d=I)(e):∃f:EC,(⟨.type "type",e,.cls d,a⟩:jb)=f.o c "ValueError.__new__"/\(aQ c::f.a).contains (.type "ValueError")=I/\(aQ c::f.a).contains (.type "AttributeError")=ak/\(aQ c::f.a).contains (.type "NameError")=ak/\(aQ c::f.a).contains (.type "BaseException")=I/\tD (.ref c::f.a)=v7:=by obtain⟨g,h,i,j,k,l,m,n,o,p,q⟩:=d;obtain⟨a⟩:=a;refine lC b λr b=>lC b λs b=>lC b λt b=>lC b λu b=>lC b λv b=>lC b λw b=>lC b λx y=>?_;have z:i=.ref c::i.tail:=aG r;have A:=aG s;have B:q=ak:=pZ t;have C:tD i=v7:=aG u;have E:(aQ c::i.tail).contains (.type "ValueError")=I:=v;have F:(aQ c::i.tail).contains (.type "AttributeError")=ak:=pZ w;have G:(aQ c::i.tail).contains (.type "NameError")=ak:=pZ x;have H:(aQ c::i.tail).contains (.type "BaseException")=I:=y;clear r s t u v w x y;generalize(jm a).getD 0 D=J,(jm a).getD 1 D=L,(jm a).getD 2 D=M,(jm a).getD 3 D=N,(jm a).getD 5 D=O at A;generalize i.tail=P at z E F G H;subst z B;rw[show a=_ from A];exact Ia ⟨g,k,j,h,P,l,m,n,o,p,e,J,L,M,N,O⟩ rfl E F G H C
theorem Fe(a:AR b.K c=I):∃d:EC,E2 b c d/\tD (.ref c::d.a)=v7:=by refine ll ((eV ..).mp a) λe f a=>?_;obtain⟨g,h,i,j⟩:=e;refine lC a λk a=>?_;induction i with|cls l=>refine H1 (Pw a h) λd m n o p q r=>?_;exact lQ d ⟨by refine ah f ?_;refine m▸?_;exact(show g=.type "type"from aG k)▸rfl,n,o,p,q⟩ r|_=>exact ft a
noncomputable def Px:List aX:=["len","abs","sum","min","divmod","int","bool","bytes","sorted","isinstance","list","range","enumerate"]
noncomputable def Ff(a:nO)(b:ew):Bool:=a.g.all λc=>eF b (.ref c.1)
noncomputable def Fh(a:nO)(b:ew):Bool:=a.c.all λc=>eF b (.ref c)
noncomputable def gtB(a:nO)(b:ew):Bool:=a.gt.all λc=>pE (nsIn b b7 (na a.d c.1)) λd=>pE d λe=>v5 e c.2
noncomputable def Fi(a:ew):Bool:=Px.all λb=>nsIn a b7 b==Z D
noncomputable def Fj(a:nO)(b:ew):Bool:=a.h.all λc=>eF b (.ref c)&&AR b c
theorem rc{a:Type}{b:List (Nat×a)}{c:a}(d:b.lookup e=Z c):(e,c)∈b:=by induction b with|nil=>cases d|cons f g h=>rw[be]at d;cases i:e==f.1 with|true=>rw[i]at d;refine(aa d)▸?_;rw[beq_iff_eq.mp i];exact aw ..|false=>rw[i]at d;exact aq _ (h d)
section
variable{a:Gd}{b:nO}
set_option tactic.hygienic true in
theorem Fk(c:a.nm=na b.d)(d:Ff b a.K=I)(e:Fh b a.K=I)(f:gtB b a.K=I)(g:Fi a.K=I)(h:Fj b a.K=I)(i:List (aX×b8))(j):nh a (b.cc i j)where
 g:=λk l=>by refine lp (Option.isSome_iff_exists.mp (show(b.g.lookup k).isSome=I from l)) λm n=>?_;exact List.all_eq_true.mp d _ (rc n)
 c:=λk l=>List.all_eq_true.mp e k (by simpa using(show b.c.contains k=I from l));d:=λo p l=>by exact c▸(xM l)
 e:=λo q l=>lR l λp r l=>uO (xM r▸List.all_eq_true.mp f _ (rc l):pE (nsIn a.K b7 o) (λs=>pE s λt=>v5 t q)=I) λs u l=>uO l λv w l=>lQ v (mg_of a.X a.hg (w▸u)) λx=>Fc l x;b:=λo _ y=>ns_none_of a.X a.hg (aG (List.all_eq_true.mp g o y));h:=λk l=>by have:=List.all_eq_true.mp h k (by simpa using(show b.h.contains k=I from l));refine lC this λz l=>?_;refine ll (Fe l) λA B _=>?_;exact⟨z,A,_,B.b,B.a⟩
noncomputable def Fm(b:nO)(a:ew)(c:Nat):Option (List Nat×List lT):=lG (a.lookup c) λd=>v4 d.data λe=>Ab (b.cc [] []) e
noncomputable def uP(a:ew)(b:ap)(c:Bool)(d:List ap->Bool):Bool:=match b with|.none=>c|.ref e=>pE (a.lookup e) λf=>E9 f.data d|_=>ak
noncomputable def Py(a:ew)(b:List V)(c:dW):Bool:=codeIn a c.code c.qualname&&(c.closure.isEmpty&&(c.params.posonlyargs.isEmpty&&(c.params.kwonlyargs.isEmpty&&(c.params.vararg.isNone&&(c.params.kwarg.isNone&&(aE (c.params.args.map (·.arg)).Nodup&&(uP a c.defaults b.isEmpty (λd=>v6 d b)&&(aE (b.length<=c.params.args.length)&&(!c.scope.isCoroutine&&(!c.scope.isGenerator&&((c.scope.kind==.function)&&(ki c.globals b7&&(ki c.builtins eM&&(c.params.args.all (λe=>nU (c.scope.names.lookup e.arg))&&c.scope.names.all (λf=>f.2 !=.free)))))))))))))))
noncomputable def Fo(a:ew)(b:Nat)(c:List V):Bool:=pE (a.lookup b) λd=>uN d.data (Py a c)
theorem Pz{c d e:Type}{f:d->Option e}{g:c->d}:∀(h:List c),lL f (h.map g)=lL (λi=>f (g i)) h:=by intro a;induction a with|nil=>exact rfl|cons i h b=>exact congrArg (mO iE (f (g i))) b
theorem Fp{c:Prop}(b:uP a.K fd.defaults d e=I)(f:d=I->sG a fd []->c)(g:∀h,e h=I->sG a fd h->c):c:=by cases i:fd.defaults with|none=>exact f (i▸b:uP a.K .none d e=I) (.inl ⟨i,rfl⟩)|ref j=>exact uO (i▸b:uP a.K (.ref j) d e=I) λk l b=>Po b λm n o b=>g _ b (.inr ⟨j,k,n,i,l,o⟩)|_=>replace b:=i▸b;exact ft b
theorem PA(b:uP a.K fd.defaults c.isEmpty (λd=>v6 d c)=I):∃e,sG a fd e/\(∀f,lx f e c):=Fp b (λg h=>lQ [] h λf=>List.isEmpty_iff.mp g▸.c) λe g h=>lQ e h (Pq g)
theorem PB(c:∀d e,nh a (b.cc d e)){f}{g}(h:Fm b a.K f=Z (g.a,g.c))(i:Fo a.K f g.b=I):∃j k l m n o,xI a f g j k l m n o:=by
 refine uO i λj p i=>E_ i λk q i=>?_;refine lR (Fb (e:=Ab (b.cc [] [])) (Fa (f:=λ(j:jb)=>v4 j.data λk=>Ab (b.cc [] []) k) h p) q) λr s t=>?_;refine lP (ru t) λu a0 v w x=>?_;refine lC i λy t=>lC t λz t=>lC t λA t=>lC t λB t=>lC t λC t=>lC t λE t=>lC t λF t=>lC t λG t=>lC t λH t=>lC t λJ t=>lC t λL t=>lC t λM t=>lC t λN t=>lC t λO t=>lC t λP Q=>?_;refine ll (PA G) λo R S=>?_;refine⟨j,k,b.cc k.scope.names (oD 30 r),r,k.params.args.map (·.arg),o,p,q,y,DJ s,List.isEmpty_iff.mp z,List.isEmpty_iff.mp A,rfl,List.isEmpty_iff.mp B,Option.isNone_iff_eq_none.mp C,Option.isNone_iff_eq_none.mp E,of_decide_eq_true F,rfl,c _ _,?_,?_,R,S,?_,pZ J,pZ L,aG M,cm N,cm O,λa3 T=>?_,λu U=>bne_iff_ne.mp (List.all_eq_true.mp Q u U)⟩;·exact(Pz _).trans (v.trans (congrArg (λV=>Z (f7 V)) x))
 ·exact w.trans (congrArg (λV=>Z (Prod.snd V)) x)
 ·rw[ay,(S ⟨λ_=>D,[]⟩).a];exact of_decide_eq_true H
 ·refine ll (List.mem_map.mp T) λW X a4=>?_;refine a4▸?_;exact List.all_eq_true.mp P W X
end
end
section
noncomputable def Fq(a:nO)(b:ew):Bool:=a.m.all λc=>c.2.all λd=>plainGet b c.1 (na a.d d.1)&&((dH b (.ref c.1) (na a.d d.1)==Z (Z (.ref d.2)))&&(isFn b (.ref d.2)&&eF b (.ref d.2)))
noncomputable def Ft(a:nO)(b:ew):Bool:=a.j.all λc=>c.2.all λd=>plainGet b c.1 (na a.d d)&&(eN b c.1&&(pE (dH b (.ref c.1) (na a.d d)) (noGet b)&&((dH b (.ref c.1) "__setattr__"==Z (Z (.builtin "object.__setattr__")))&&(kQ b c.1&&(jM b c.1 (na a.d d)==Z D)))))
noncomputable def Fu(a:nO)(b:ew):Bool:=a.n.all λc=>makesIn b c.1&&((dH b (.ref c.1) "__init__"==Z (Z (.ref c.2)))&&(typeIn b (.ref c.2)==Z (.type "function")))
noncomputable def PC(a:nO):Bool:=(na a.d a.f=="append")&&((na a.d a.b=="pop")&&((na a.d a.k=="remove")&&((na a.d a.i=="get")&&(na a.d a.l=="join"))))
noncomputable def subB(a:nO)(b:ew):Bool:=a.a.all λc=>a.a.all λd=>pE (kh b c.1) λe=>e.mro.contains (.ref d.1)==(c.1==d.1)
noncomputable def xN(a:ew)(b:Nat):Bool:=(dH a (.ref b) "__getattribute__"==Z (Z (.builtin "BaseException.__getattribute__")))&&((dH a (.ref b) "__getattr__"==Z D)&&((dH a (.ref b) "cause"==Z D)&&(eN a b&&(mroIn a b (.type "BaseException")==Z I))))
noncomputable def xO(a:ew)(b:Nat)(c:aX):Bool:=(dH a (.ref b) "__setattr__"==Z (Z (.builtin "object.__setattr__")))&&((jM a b c==Z D)&&(eN a b&&pE (kh a b) λd=>d.mro.contains (.type "object")))
noncomputable def xP(a:ew)(b c:Nat):Bool:=AR a b&&(xO a b "reason"&&(xO a b "cause"&&(xO a b "value"&&((dH a (.ref b) "__init__"==Z (Z (.ref c)))&&eF a (.ref b)))))
section
variable{a:Gd}{b:nO}
theorem PD(c:a.nm=na b.d)(d:Fq b a.K=I):∀e f g,b.pt.h e f=Z g->CQ a e f g/\eF a.K (.ref g)=I:=λe f g h=>by refine ll (Option.bind_eq_some_iff.mp (show(b.m.lookup e).bind (λi=>i.lookup f)=Z g from h)) λi j k=>?_;refine lC (List.all_eq_true.mp (List.all_eq_true.mp d _ (rc j)) _ (rc k)) λl d=>lC d λm d=>lC d λn o=>?_;exact⟨⟨c▸l,c▸aG m,n⟩,o⟩
set_option tactic.hygienic true in
theorem at_of(c:a.nm=na b.d)(d:Ft b a.K=I)(e f)(g:b.pt.e e f=I):zS a e f/\zU a e f:=by refine ll ((eV ..).mp (g:(b.j.lookup e).any (λh=>h.contains f)=I)) λh i j=>?_;refine lC (List.all_eq_true.mp (List.all_eq_true.mp d _ (rc i)) f (List.contains_iff_mem.mp j)) λk d=>lC d λl d=>lC d λm d=>lC d λn d=>lC d λo p=>uO m λq r m=>?_;exact⟨⟨c▸k,l,lQ q (c▸r) m⟩,⟨aG n,o,c▸aG p,l⟩⟩
theorem PF(c:Fu b a.K=I):∀d e,b.pt.c d=Z e->uB a d e:=λd e f=>lC (List.all_eq_true.mp c _ (rc (show b.n.lookup d=Z e from f))) λg c=>lC c λh i=>⟨g,aG h,aG i⟩
theorem PG(c:subB b a.K=I):tC a b.pt:=λd e f g h i=>by refine lp (Option.isSome_iff_exists.mp g) λj k=>?_;refine lp (Option.isSome_iff_exists.mp h) λl m=>?_;exact aG (AP (e:=λ(f)=>f.mro.contains (.ref e)==(d==e)) (List.all_eq_true.mp (List.all_eq_true.mp c _ (rc (show b.a.lookup d=Z j from k))) _ (rc (show b.a.lookup e=Z l from m))) i)
theorem AS(b:xN a.K c=I):uM a.K c "cause":=lC b λd b=>lC b λe b=>lC b λf b=>lC b λg h=>⟨aG d,aG e,aG f,g,aG h⟩
theorem AT(b:xP a.K c d=I):∃e,v0 a c d e:=by
 refine lC b λf b=>lC b λg b=>lC b λh b=>lC b λi b=>lC b λj k=>?_;refine ll (Fe f) λl m n=>?_;obtain⟨o,p,q,r,s⟩:=m;obtain⟨e,t,u⟩:∃e,kh a.K c=Z e/\e.mro=.ref c::l.a:=⟨_,by unfold kh;rw[o];rfl,rfl⟩;have v:∀w,xO a.K c w=I->xJ a.K c w e:=λw x=>by refine lC x λy b=>lC b λz b=>lC b λA B=>?_;unfold eN at A;rw[t]at A;exact⟨t,aG y,AP (e:=λ(e:iA)=>e.mro.contains (.type "object")) B t,λC=>Pu C (u▸n),aG z,A⟩
 exact⟨_,λw x=>by
  rcases List.mem_cons.mp x with rfl|x;·exact v _ g
  ·refine aB (List.mem_cons.mp x) (λE=>?_) (λx=>?_);·refine E▸?_;exact v _ h
   ·exact List.mem_singleton.mp x▸v _ i,⟨l,o,p,q,r,s⟩,aG j,k⟩
noncomputable def PH(a:ew)(b:List aX)(c:dW):Bool:=codeIn a c.code c.qualname&&(c.closure.isEmpty&&(c.params.posonlyargs.isEmpty&&(c.params.kwonlyargs.isEmpty&&(c.params.vararg.isNone&&(c.params.kwarg.isNone&&(aE (c.params.args.map (·.arg)=b)&&(aE b.Nodup&&(uP a c.defaults I (λd=>aE (d.length<=b.length))&&(!c.scope.isCoroutine&&(!c.scope.isGenerator&&((c.scope.kind==.function)&&(ki c.globals b7&&(ki c.builtins eM&&b.all (λe=>c.scope.names.lookup e==Z .local))))))))))))))
noncomputable def AU(a:ew)(b:Nat)(c:List aX):Bool:=pE (a.lookup b) λd=>(d.cls==.type "function")&&uN d.data (PH a c)
theorem Fw(b:AU a.K c d=I):∃e f g,a.K.lookup c=Z e/\e.data=.func f/\∀h,f.body=.stmts h->uJ a c e f h d g:=by refine uO b λe i b=>lC b λj b=>E_ b λf k b=>?_;refine lC b λl b=>lC b λm b=>lC b λn b=>lC b λo b=>lC b λp b=>lC b λq b=>lC b λr b=>lC b λs b=>lC b λt b=>lC b λu b=>lC b λv b=>lC b λw b=>lC b λx b=>lC b λy z=>?_;have A:∀g,sG a f g->g.length<=d.length->∃e f g,a.K.lookup c=Z e/\e.data=.func f/\∀h,f.body=.stmts h->uJ a c e f h d g:=λg B C=>⟨e,f,g,i,k,λh E=>⟨i,aG j,k,l,E,List.isEmpty_iff.mp m,List.isEmpty_iff.mp n,of_decide_eq_true r,List.isEmpty_iff.mp o,Option.isNone_iff_eq_none.mp p,Option.isNone_iff_eq_none.mp q,of_decide_eq_true s,B,C,pZ u,pZ v,aG w,cm x,cm y,λF G=>aG (List.all_eq_true.mp z F G)⟩⟩;exact Fp t (λ_ H=>A _ H (bv _)) λg J H=>A _ H (of_decide_eq_true J)
noncomputable def v8(a:ew)(b:Nat):Option (List fq):=lG (a.lookup b) λc=>v4 c.data λd=>vH d.body
noncomputable def AV(a:ew)(b:Nat)(c:aX):Bool:=pE (a.lookup b) λd=>uN d.data λe=>e.scope.names.lookup c==Z .globalImplicit
theorem Fx{a}(b:a.lookup c=Z d)(e:d.data=.func f)(g:v8 a c=Z h):f.body=.stmts h:=DJ (Fb (e:=λf=>vH f.body) (Fa (f:=λ(d:jb)=>v4 d.data λf=>vH f.body) g b) e)
theorem Fy{a}(b:a.lookup c=Z d)(e:d.data=.func f)(g:AV a c h=I):f.scope.names.lookup h=Z .globalImplicit:=aG (Pp (d:=λf=>f.scope.names.lookup h==Z .globalImplicit) (AP (e:=λ(d:jb)=>uN d.data λf=>f.scope.names.lookup h==Z .globalImplicit) g b) e)
noncomputable def FC(a:ew)(b:Nat):Bool:=AU a b ["self","reason"]&&(AV a b "ValueError"&&(nsIn a b7 "ValueError"==Z D))
theorem PJ(b:FC a.K c=I)(d:v8 a.K c=Z AK)(e:jS a.K (.type "ValueError") (.type "type") "__init__"=Z (.val (.builtin "ValueError.__init__"))):uL a c:=lC b λf b=>lC b λg h=>nZ (Fw f) λi j k l m n=>⟨⟨i,j,k,n _ (Fx l m d),Fy l m g⟩,ns_none_of a.X a.hg (aG h),e⟩
noncomputable def FD(a:ew)(b c:Nat):Bool:=AU a b ["self","cause","value"]&&(AV a b "BoardError"&&((nsIn a b7 "BoardError"==Z (Z (.ref c)))&&((specialIn a (.ref c) "__getattribute__"==Z (Z (.builtin "type.__getattribute__")))&&readsIn a c (.type "type"))))
theorem PK(b:FD a.K c d=I)(e:v8 a.K c=Z AM)(f:jS a.K (.ref d) (.type "type") "__init__"=Z (.val (.ref fB)))(g:eF a.K (.ref fB)=I):v3 a c fB:=lC b λh b=>lC b λi b=>lC b λj b=>lC b λk l=>nZ (Fw h) λm n o p q r=>⟨⟨m,n,o,r _ (Fx p q e),Fy p q i⟩,⟨d,⟨mg_of a.X a.hg (aG j),aG k,l,f⟩⟩,g⟩
end
end
noncomputable def st(a:String):List Nat:=(bN a).1.toList
noncomputable def PL:fq->List fq|.ClassDef _ _ _ a ..=>a|b=>[b]
noncomputable def atS(a:Nat)(b:List fq):fq:=b.getD a (.Pass ⟨0,0,0,0⟩)
inductive KK{α:Type}(x:α):Prop|mk
noncomputable def KK.get{a:Type}{b:a}(_:KK b):a:=b
noncomputable def AW:List aX:=(["k","FETCH_MISALIGNED","FETCH_ACCESS","ILLEGAL","BREAKPOINT","LOAD_MISALIGNED","LOAD_ACCESS","STORE_MISALIGNED","STORE_ACCESS","CALL_FROM_USER","CALL_FROM_SUPERVISOR","CALL_FROM_MACHINE","FETCH_PAGE","LOAD_PAGE","STORE_PAGE","value","entry","kind","mode","sum_bit","mxr","size","begin","end","n","flags","parts","own","big","made","room","fresh","some","first","table","root","address","walker","number","place","due","memory","pool","count","rows","found","lines","bits","whole","told","odd","script","marks","self","reason","cause","page_bits","level_bits","page","entries","large","second","offset","physical","join","bus","layout","trap","pages","make","add","take","words","index","ones","shift","old","octets","octet","source","target","other","stretches","device","stretch","fill","untouched","given","held","way","rest","inside","more","kept","gain","loss","get","signs","many","at","free","__init__","down","entry_at","mark","zero","need_parts","word","need_flags","put_word","walk","need_place","tables_of","give","star","need_aligned","keep","put_part","half","need","turn","stretch_at","load","need_free","filled","need_held","pop","append","store","remove","prune","probe","text","free_count","pages_in","new_table","large_page","is_begin","row","holds","put","holders","address_of","map","unmap","change","move","map_large","slot","leaves","up","extend","rows_of","live","put_octet","put_half","is_page","name","__name__","ENTRY","VALID","READ","WRITE","EXECUTE","USER","ACCESSED","DIRTY","LEAF","FLAG_BITS","FLAGS","FLAG_NAMES","DIGITS","FETCH","LOAD","STORE","PAGE_FAULTS","ACCESS_FAULTS","USER_MODE","WORD","MASK","SPACE","SIZES","TAKEN","FREED","BadArgument","NoRoom","Trap","Layout","eight_digits","is_leaf","is_sound","may","Walker","Tables","need_size","need_stretch","Memory","Rom","Bus","Pages","_law_parts","_law_fine","_law_mapped","_law_large","_law_changed","_law_due","_law_told","_law_rows","_law_one","_law_hex","_law_same","_law_layout_right","BadAddress"]:List String).map bN
noncomputable def FE:List (Nat×V):=[(158,.d (st "law_nu0098_01")),(159,.a 4),(160,.a 1),(161,.a 2),(162,.a 4),(163,.a 8),(164,.a 16),(165,.a 64),(166,.a 128),(167,.a 10),(168,.a 10),(169,.a 1023),(170,.d (st "vrwxugad")),(171,.d (st "0123456789abcdef")),(172,.d (st "fetch")),(173,.d (st "load")),(174,.d (st "store")),(175,.i 106),(176,.i 107),(177,.a 0),(178,.a 4),(179,.a 4294967295),(180,.a 4294967296),(181,.i 423),(182,.a 5),(183,.a 1),(184,.i 52),(185,.i 83),(186,.i 103),(187,.i 182),(188,.i 191),(189,.i 198),(190,.i 205),(191,.i 212),(192,.i 266),(193,.i 418),(194,.i 430),(195,.i 437),(196,.i 607),(197,.i 649),(198,.i 714),(199,.i 834),(200,.i 845),(201,.i 852),(202,.i 859),(203,.i 866),(204,.i 873),(205,.i 878),(206,.i 885),(207,.i 890),(208,.i 897),(209,.i 902),(210,.i 907),(211,.i 912),(212,.i 71)]
noncomputable def FF:List Nat:=[182,266,418,607,714,834]
noncomputable def FG:List Nat:=[52,83,103]
noncomputable def FH:List (Nat×Nat×Nat×List V):=[(122,27,0,[.a 12]),(129,27,1,[]),(137,27,2,[.a 0]),(144,27,3,[]),(151,27,4,[]),(158,27,5,[]),(165,27,6,[]),(172,27,7,[]),(179,27,8,[]),(191,28,0,[]),(198,29,0,[]),(205,30,0,[]),(212,31,0,[]),(226,32,0,[]),(241,32,2,[]),(263,32,5,[.a 0,.a 0]),(284,33,0,[]),(291,33,1,[]),(298,33,2,[]),(306,33,3,[.h ak]),(313,33,4,[]),(320,33,5,[]),(327,33,6,[]),(334,33,7,[]),(341,33,8,[]),(348,33,9,[]),(355,33,10,[]),(363,33,11,[.a 0]),(370,33,12,[]),(377,33,13,[]),(384,33,14,[]),(391,33,15,[]),(398,33,16,[]),(403,33,17,[]),(410,33,18,[]),(415,33,19,[]),(430,39,0,[]),(437,40,0,[]),(452,41,0,[.a 0]),(466,41,2,[]),(473,41,3,[]),(480,41,4,[]),(487,41,5,[]),(494,41,6,[]),(536,41,12,[]),(557,41,15,[]),(564,41,16,[]),(667,43,0,[]),(689,43,3,[.a 5]),(733,47,0,[.h I]),(740,47,1,[]),(747,47,2,[]),(754,47,3,[]),(761,47,4,[]),(768,47,5,[]),(775,47,6,[]),(782,47,7,[]),(789,47,8,[]),(817,47,12,[]),(845,49,0,[]),(852,50,0,[]),(859,51,0,[]),(866,52,0,[]),(873,53,0,[]),(878,54,0,[]),(885,55,0,[]),(890,56,0,[]),(897,57,0,[]),(902,58,0,[]),(907,59,0,[]),(912,60,0,[]),(917,61,0,[])]
noncomputable def FI(a:List (aX×b8))(b:List aX):CC:={d:=AW,e:=λc=>lG (tp c AW 0) λd=>FE.lookup d,c:=λe=>FF.contains e,g:=λe=>(FH.lookup e).isSome,h:=λe=>FG.contains e,sc:=a,j:=b}
noncomputable def PN(a:List V):fq->Fn|.FunctionDef _ b c _ _ _ d ..=>((mO Prod.mk (lL (λ(e:Arg)=>(FI [] []).id e.arg) b.args) (mK 60 (FI d.names (oD 30 c)) c)).map λf=>⟨f.1,a,f.2⟩).getD ⟨[],a,[]⟩|_=>⟨[],a,[]⟩
set_option maxHeartbeats 4000000 in
noncomputable def tE:List (Nat×Fn):=by
 have a:KK (FH.map λ(b,c,d,e)=>(b,PN e (atS d (PL (atS c PySem.Challenge.pw_nu0098_01.main.body))))):=.mk;conv at a=>arg 1;reduce
 exact a.get
noncomputable def TT:nO where d:=AW;gt:=FE;c:=FF;h:=FG;g:=tE;m:=[(182,[(16,172),(26,129),(36,137),(63,179),(102,144),(134,165),(137,158),(150,151)]),(266,[(103,241),(131,263)]),(418,[(16,313),(44,384),(63,320),(100,410),(106,298),(108,327),(110,306),(111,348),(112,377),(130,398),(132,415),(135,291),(143,334),(144,355),(145,363),(146,370),(147,341),(149,403),(152,391)]),(607,[(96,536),(105,564),(107,480),(109,487),(115,473),(116,494),(119,466),(128,557)]),(714,[(122,689)]),(834,[(71,789),(113,817),(123,775),(124,782),(125,761),(133,768),(141,754),(142,740),(156,747)])];n:=[(182,122),(266,226),(418,284),(607,452),(714,667),(834,733)];j:=[(182,[56,57,58,59,60,23]),(266,[65,66]),(418,[41,66,68]),(607,[21,22,23,72]),(714,[41,82]),(834,[41,22,43,21,85,86,87,88])];p:=106;o:=[([102,101,116,99,104],12),([108,111,97,100],13),([115,116,111,114,101],15)];a:=[(52,.a),(83,.a),(103,.b)];f:=127;k:=129;b:=126;i:=96;l:=64
noncomputable def nM(a:Nat):List lT:=((tE.lookup a).map Fn.c).getD []
noncomputable def PP(a:lT):List lT:=by cases a with|h _ _ _ b=>exact b|a _ b=>exact b|_=>exact[]
noncomputable def fb(a:Nat)(b:List lT):List lT:=PP (b.getD a .e)
noncomputable abbrev lj:PT:=TT.pt
section
namespace GW
set_option genCtorIdx false in
inductive Qn where|v(m:R V)|o(m:Option V)|u(m:R Unit)|t(m:R Bool)|b(m:Bool)|s(m:R (Ro×Fl))|e(m:Ro)|m(S:MS)|l(v:Option LV)|lX|a
noncomputable abbrev Qs:=List (Qn×Qn)
set_option genCtorIdx false in
inductive An where|v(m a:R V)(h:m=a)|o(m a:Option V)(h:m=a)|d(m a:Option V)(h:m=a)|t(m a:R Bool)(h:m=a)|b(m a:Bool)(h:m=a)|u(m a:R Unit)(h:m=a)|s(m:R (Ro×Fl))(ρ:Ro)(fl:Fl)(S:MS)(env:Ro)(h:m=.ok (ρ,fl) S)(he:∀x v,kZ x env=Z v->kZ x ρ=Z v)
noncomputable abbrev mM(a:Qs):Prop:=a.map f7=a.map Prod.snd
noncomputable def Qn.un(a:Qn):Qs:=[(a,.lX)]
noncomputable def FJ(a:R V)(b:List An)(c:R V->List An->Qs):Qs:=match b with|.v d e _::b=>(.v a,.v d)::c e b|_=>[(.v a,.lX)]
noncomputable def FK(a:Option V)(b:List An)(c:Option V->List An->Qs):Qs:=match b with|.o d e _::b=>(.o a,.o d)::c e b|_=>[(.o a,.lX)]
noncomputable def FL(a:Option V)(b:List An)(c:Option V->List An->Qs):Qs:=match b with|.d d e _::b=>(.o a,.o d)::c e b|_=>c a b
noncomputable def FM(a:R Bool)(b:List An)(c:R Bool->List An->Qs):Qs:=match b with|.t d e _::b=>(.t a,.t d)::c e b|_=>[(.t a,.lX)]
noncomputable def AX(a:Bool)(b:List An)(c:Bool->List An->Qs):Qs:=match b with|.b d e _::b=>(.b a,.b d)::c e b|_=>[(.b a,.lX)]
noncomputable def FN(a:R Unit)(b:List An)(c:R Unit->List An->Qs):Qs:=match b with|.u d e _::b=>(.u a,.u d)::c e b|_=>[(.u a,.lX)]
noncomputable def FO(a:R (Ro×Fl))(b:List An)(c:Ro->R (Ro×Fl)->List An->Qs):Qs:=match b with|.s d e f g h _ _::b=>(.s a,.s d)::c h (.ok (e,f) g) b|_=>[(.s a,.lX)]
noncomputable abbrev GM(a:Type):=MS->List An->(R a->List An->Qs)->Qs
noncomputable def FP{a b:Type}(c:R b->List An->Qs)(d:List An)(e:a->MS->Qs):R a->Qs|.ok f g=>e f g|.c h g=>c (.c h g) d|.b=>[(.lX,.a)]
noncomputable def gb{a b:Type}(c:GM a)(d:a->GM b):GM b:=λe f g=>c e f λh f=>FP g f (λi e=>d i e f g) h
noncomputable def gp{a:Type}(b:M a):GM a:=λc d e=>e (b c) d
noncomputable def gx{a:Type}:GM a:=λ_ _ _=>[(.lX,.a)]
noncomputable def gV(a:M V):GM V:=λb c d=>FJ (a b) c d
noncomputable def gT(a:M Bool):GM Bool:=λb c d=>FM (a b) c d
noncomputable def gU(a:M Unit):GM Unit:=λb c d=>FN (a b) c d
noncomputable def gO(a:Option V):GM V:=λb c d=>FK a c λe c=>d (M.c e b) c
noncomputable def gD(a:Option V):GM V:=λb c d=>FL a c λe c=>d (M.c e b) c
noncomputable def gB{a:Type}(b:Bool)(c d:GM a):GM a:=λe f g=>AX b f λh f=>bf h (d e f g) (c e f g)
noncomputable def gS{a b:Type}(c:Option a)(d:a->GM b):GM b:=c0 c gx d
structure GE where
 ev:ls->GM V
 ts:ls->GM Bool
section
variable(b:PT)(c:nq)(d e:Ro)(a:GE)
noncomputable def rU:List ls->GM (List V)|[]=>gp (M.pure [])|f::g=>gb (a.ev f) λb=>gb (rU g) λc=>gp (M.pure (b::c))
noncomputable def xQ:List ls->GM Bool|[]=>gp (M.pure I)|f::g=>gb (a.ts f) λb=>gB b (xQ g) (gp (M.pure ak))
noncomputable def AY:List ls->GM Bool|[]=>gp (M.pure ak)|f::g=>gb (a.ts f) λb=>gB b (gp (M.pure I)) (AY g)
noncomputable def p8(a:Bool):V->V|.h _=>.h a|f=>f
noncomputable def AZ:List ls->GM V|[]=>gx|f::g=>dz g (a.ev f) λ_ _=>gb (a.ev f) λb=>gS (pU b) λc=>gB c (AZ g) (gp (M.pure (p8 ak b)))
noncomputable def A0:List ls->GM V|[]=>gx|f::g=>dz g (a.ev f) λ_ _=>gb (a.ev f) λb=>gS (pU b) λc=>gB c (gp (M.pure (p8 I b))) (A0 g)
noncomputable def PQ:V->Bool|.c _=>I|_=>ak
noncomputable def A1(f:jW)(a b:V):GM Bool:=match f with|.In=>gT (mz .In a b)|.NotIn=>gT (mz .NotIn a b)|f=>bf (PQ a) (gp (mz f a b)) (gT (mz f a b))
noncomputable def xR:List jW->V->List ls->GM Bool|[]=>λ_ _=>gx|f::g=>λb c=>dz c gx λd c=>gb (a.ev d) λe=>dz g (dz c (A1 f b e) λ_ _=>gx) λ_ _=>gb (A1 f b e) λh=>gB h (xR g e c) (gp (M.pure ak))
noncomputable def A2(a:MS):V->Option MO|.b f=>a.σ[f]?|_=>Z (.c [])
noncomputable def xS(a:MS)(c:Nat):MO->Option Nat
 |.a f g=>match a.σ[g]? with
  |some (.b h)=>match kZ c h with|D=>b.h f c|some _=>D
  |_=>D
 |_=>D
noncomputable def A3(a:Nat)(c:V):MO->Option MO|.a _ _=>D|f=>bif rE b a c f then Z f else D
noncomputable def A4(d:Nat)(e:List ls)(f:V):GM V:=λg=>c0 (A2 g f) (gx g) λh=>c0 (xS b g d h) (c0 (A3 b d f h) (gx g) λh=>gb (rU a e) (λi=>gV (rG b d f h i)) g) λj=>gb (rU a e) (λi=>gV (c.l j (f::i))) g
noncomputable def FQ(f:gI)(a b:V):GM V:=match f with|.Mult=>gO (lU .Mult a b)|.LShift=>gO (lU .LShift a b)|.Pow=>gO (lU .Pow a b)|.FloorDiv=>gD (lU .FloorDiv a b)|.Mod=>gD (lU .Mod a b)|.RShift=>gD (lU .RShift a b)|f=>gp (M.c (lU f a b))
noncomputable def pv:V->Bool|.e _=>I|.i _=>I|_=>ak
noncomputable def isDir:s_->Bool|.abs|.d|.s|.a|.h|.min=>I|_=>ak
noncomputable def FR:Option LV->GM V|some (.a f)=>gp (M.pure f)|_=>gx
noncomputable def FT:ls->GM V|.b f=>FR (kZ f e)|.f g=>gp (M.pure g)|.k h i j=>gb (a.ev i) λf=>gb (a.ev j) λk=>FQ h f k|.un .Not i=>gb (a.ev i) λf=>gp (M.bind (M.c (pU f)) λj=>M.pure (.h (!j)))|.un h i=>gb (a.ev i) λf=>gp (M.c (unop h f))|.n i l m=>gb (a.ev i) λf=>gb (xR a l f m) λj=>gp (M.pure (.h j))|.o n i j=>gb (a.ts n) λo=>gB o (a.ev i) (a.ev j)|.q p f=>gb (a.ev p) λg=>gp (vn b g f)|.d m=>AZ a m|.g m=>A0 a m|.l q r=>gb (rU a r) λs=>gV (c.l q s)|.p p f r=>gb (a.ev p) λg=>A4 b c a f r g|.l6 t r=>gb (rU a r) λs=>bf (isDir t) (gV (l6 t s)) (gp (l6 t s))|.e m=>gb (rU a m) λs=>gp (if s.length<=4096 then M.pure (.e s)else M.b)|.c m=>gb (rU a m) λs=>gp (if s.length<=4096 then M.pure (.c s)else M.b)|.h=>gp (l_ b c d .h)|.j i j=>gb (a.ev i) λf=>gb (a.ev j) λk=>bf (pv f) (gV (mS b f k)) (gp (mS b f k))|p=>gV (l_ b c d p)
noncomputable def FU:ls->GM Bool|.un .Not f=>gb (a.ts f) λg=>gp (M.pure (!g))|.d h=>xQ a h|.g h=>AY a h|.o i j g=>gb (a.ts i) λb=>gB b (a.ts j) (a.ts g)|.n j k h=>gb (a.ev j) λc=>xR a k c h|f=>gb (a.ev f) λd=>gp (M.c (pU d))
end
noncomputable def gE(a:PT)(b:Nat)(c d:Ro):Nat->GE|0=>⟨λ_=>gx,λ_=>gx⟩|e+1=>⟨FT a (kX a (b+e)) c d (gE a b c d e),FU (gE a b c d e)⟩
theorem mV(a:mM (b::c)):b.1=b.2/\mM c:=List.cons.inj a
noncomputable def Fin{a:Type}(b:a->List An->Qs)(c:a):Prop:=∃d,mM (b c d)
theorem m7{a:Prop}(b:mM [(.lX,.a)]):a:=Qn.noConfusion (mV b).1
theorem PR(a:mM (FJ b c d)):Fin d b:=by induction c with|nil=>exact Qn.noConfusion (mV a).1|cons e c=>induction e with|v f e g=>obtain⟨h,i⟩:=mV a;injection h with h;rw[h,g];exact mf _ i|_=>exact Qn.noConfusion (mV a).1
theorem PS(a:mM (FK b c d)):Fin d b:=by induction c with|nil=>exact Qn.noConfusion (mV a).1|cons e c=>induction e with|o f e g=>obtain⟨h,i⟩:=mV a;injection h with h;rw[h,g];exact mf _ i|_=>exact Qn.noConfusion (mV a).1
theorem PU(a:mM (FL b c d)):Fin d b:=by induction c with|nil=>exact⟨_,a⟩|cons e c=>induction e with|d f e g=>obtain⟨h,i⟩:=mV a;injection h with h;rw[h,g];exact mf _ i|_=>exact⟨_,a⟩
theorem PV(a:mM (FM b c d)):Fin d b:=by induction c with|nil=>exact Qn.noConfusion (mV a).1|cons e c=>induction e with|t f e g=>obtain⟨h,i⟩:=mV a;injection h with h;rw[h,g];exact mf _ i|_=>exact Qn.noConfusion (mV a).1
theorem FV(a:mM (AX b c d)):Fin d b:=by induction c with|nil=>exact Qn.noConfusion (mV a).1|cons e c=>induction e with|b f e g=>obtain⟨h,i⟩:=mV a;injection h with h;rw[h,g];exact mf _ i|_=>exact Qn.noConfusion (mV a).1
theorem PW(a:mM (FN b c d)):Fin d b:=by induction c with|nil=>exact Qn.noConfusion (mV a).1|cons e c=>induction e with|u f e g=>obtain⟨h,i⟩:=mV a;injection h with h;rw[h,g];exact mf _ i|_=>exact Qn.noConfusion (mV a).1
noncomputable def GO{a:Type}(b:GM a)(c:M a):Prop:=∀d e f,mM (b d e f)->Fin f (c d)
theorem mC{a b:Type}{c:GM a}{d:a->GM b}{e:M a}{f:a->M b}(g:GO c e)(h:∀i,GO (d i) (f i)):GO (gb c d) (M.bind e f):=λj k l m=>by obtain⟨k,m⟩:=g _ _ _ m;unfold M.bind;revert m;cases e j with|ok i n=>exact h i n k l|c o n=>exactλg=>⟨k,g⟩|b=>exact m7
theorem mN{a:Type}{b:M a}:GO (gp b) b:=λ_ c _ d=>⟨c,d⟩
theorem rf{a:Type}{b:M a}:GO gx b:=λ_ _ _ c=>m7 c
theorem uQ{a:M V}:GO (gV a) a:=λ_ _ _ b=>PR b
theorem A5{a:M Bool}:GO (gT a) a:=λ_ _ _ b=>PV b
theorem PX{a:M Unit}:GO (gU a) a:=λ_ _ _ b=>PW b
theorem A6{a}:GO (gO a) (M.c a):=λ_ _ _ b=>PS b
theorem A7{a}:GO (gD a) (M.c a):=λ_ _ _ b=>PU b
theorem tF{a:Type}{b}{c d:GM a}{e:M a}(f:b=I->GO c e)(g:b=ak->GO d e):GO (gB b c d) e:=λh i j k=>by obtain⟨i,k⟩:=FV k;induction b with|true=>exact f rfl h i j k|false=>exact g rfl h i j k
theorem A8{a:Type}{b}{c d:GM a}{e:M a}(f:GO c e)(g:GO d e):GO (bf b d c) e:=by cases b<;>assumption
structure A9(K:nq)(ρ:Ro)(A:GE):Prop where ev:∀e,GO (A.ev e) (K.ev ρ e)ts:∀e,GO (A.ts e) (K.b ρ e)
theorem FW{a}(b:pU a=Z c):p8 c a=a:=by cases a with|h d=>obtain rfl:=aa b;rfl|_=>rfl
section
variable{d:PT}{b:nq}{c f:Ro}{e:GE}(a:A9 b c e)
include a
theorem tG(g):GO (rU e g) (mw b c g):=by induction g with|nil=>exact mN|cons d f h=>exact mC (a.ev d) λi=>mC h λj=>mN
theorem FX(g):GO (xQ e g) (oZ b c g):=by induction g with|nil=>exact mN|cons d f h=>exact mC (a.ts d) λi=>tF (λj=>by subst j;exact h) λj=>by subst j;exact mN
theorem PY(g):GO (AY e g) (qv b c g):=by induction g with|nil=>exact mN|cons d f h=>exact mC (a.ts d) λi=>tF (λj=>by subst j;exact mN) λj=>by subst j;exact h
omit a in
theorem FY{g:Type}{h}{i:Bool->GM g}{j:Bool->M g}(b:∀k,h=Z k->GO (i k) (j k)):GO (gS h i) (M.bind (M.c h) j):=by induction h with|none=>exact rf|some k=>exact b k rfl
theorem PZ(g):GO (AZ e g) (wW b c g):=by induction g with|nil=>exact rf|cons d f h=>induction f with|nil=>exact a.ev d|cons i f=>exact mC (a.ev d) λj=>FY λk l=>tF (λm=>by refine m▸?_;exact h) λm=>by subst m;exact(FW l).symm▸mN
theorem P1(g):GO (A0 e g) (wX b c g):=by induction g with|nil=>exact rf|cons d f h=>induction f with|nil=>exact a.ev d|cons i f=>exact mC (a.ev d) λj=>FY λk l=>tF (λm=>by subst m;rw[FW l];exact mN) λm=>by subst m;exact h
omit a in
theorem FZ(g)(h i):GO (A1 g h i) (mz g h i):=by induction g with|In=>exact A5|NotIn=>exact A5|_=>exact A8 A5 mN
theorem F0(g):∀h i,GO (xR e g h i) (qw b c h g i):=by
 induction g with|nil=>exactλh i=>rf|cons d g f=>induction g with
  |nil=>exactλh i=>match i with|[]=>rf|[j]=>mC (a.ev j) λk=>FZ d h k|j::_::_=>λl m n o=>by obtain⟨m,o⟩:=a.ev j _ _ _ o;revert o;show mM (FP n m _ _)->Fin n (M.bind (b.ev c j) _ l);unfold M.bind;cases b.ev c j l with|c j p=>exactλo=>⟨m,o⟩|_=>exact m7
  |cons q g=>exactλh i=>match i with|[]=>rf|j::i=>mC (a.ev j) λk=>mC (FZ d h k) λr=>tF (λs=>by subst s;exact f k i) λs=>by subst s;exact mN
omit a in
theorem P2{g:Type}{h:MO->M g}:ti i h j=(match A2 j i with|some k=>h k j|D=>.b:R g):=by cases i<;>rfl
omit a in
theorem P3(e:xS d g h i=Z j):vx d b c h k l i g=M.bind (mw b c k) (λm=>b.l j (l::m)) g:=by
 unfold xS at e;induction i with
 |a f n=>
  show mR n _ g=_;unfold mR;revert e;dsimp only;cases g.σ[n]? with|none=>exact nn|some i=>induction i with
   |b o=>show _->vw (kZ h o) _ g=_;dsimp only;cases kZ h o with|some _=>exact nn|none=>exactλe=>by dsimp only at e;refine e.symm▸?_;rfl
   |_=>exact nn
 |_=>exact nn e
omit a in
theorem P5(e:A3 d g h i=Z j):vx d b c g k h i l=M.bind (mw b c k) (λm=>rG d g h j m) l:=by
 have f:∀i,(bif rE d g h i then Z i else D)=Z j->(if rE d g h i then M.bind (mw b c k) λm=>rG d g h i m else M.b:M V) l=M.bind (mw b c k) (λm=>rG d g h j m) l:=λi=>by cases rE d g h i with|false=>exact nn|true=>intro e;obtain rfl:=aa e;rfl
 induction i with|a n o=>exact nn e|c _=>exact f _ e|m _=>exact f _ e|b _=>exact f _ e
theorem P6{g}{h}{i}:GO (A4 d b e g h i) (ti i (vx d b c g h i)):=λf j k=>by rw[P2];unfold A4;cases A2 f i with|none=>exact m7|some l=>dsimp only;cases m:xS d f g l with|some n=>rw[P3 m];exact mC (tG a h) (λo=>uQ) f j k|none=>dsimp only;cases m:A3 d g i l with|some l=>rw[P5 m];exact mC (tG a h) (λo=>uQ) f j k|none=>exact m7
omit a in
theorem P7{g}:GO (FQ g h i) (M.c (lU g h i)):=by induction g with|Mult=>exact A6|LShift=>exact A6|Pow=>exact A6|FloorDiv=>exact A7|Mod=>exact A7|RShift=>exact A7|_=>exact mN
theorem P8(g:∀h i,kZ h f=Z i->kZ h c=Z i)(j):GO (FT d b c f e j) (l_ d b c j):=by
 cases j with
 |b h=>show GO (FR (kZ h f)) (match kZ h c with|some (.a i)=>M.pure i|_=>M.b:M V);cases j:kZ h f with|none=>exact rf|some k=>rw[g h _ j];induction k with|a i=>exact mN|b _=>exact rf
 |f i=>exact mN|k l m n=>exact mC (a.ev m) λh=>mC (a.ev n) λo=>P7|un l m=>induction l with|Not=>exact mC (a.ev m) λh=>mN|_=>exact mC (a.ev m) λh=>mN
 |n m p q=>exact mC (a.ev m) λh=>mC (F0 a p h q) λn=>mN|o r m n=>exact mC (a.ts r) λs=>tF (λt=>by subst t;exact a.ev m) λt=>by subst t;exact a.ev n|q j h=>exact mC (a.ev j) λi=>mN|d q=>exact PZ a q|g q=>exact P1 a q|l u v=>exact mC (tG a v) λw=>uQ|p j h v=>exact mC (f:=λi=>ti i (vx d b c h v i)) (a.ev j) λi=>P6 a|l6 x v=>exact mC (tG a v) λw=>A8 mN uQ|e q=>exact mC (tG a q) λw=>mN|c q=>exact mC (tG a q) λw=>mN|h=>exact mN|j m n=>exact mC (a.ev m) λh=>mC (a.ev n) λo=>A8 mN uQ|_=>exact uQ
theorem P9(g):GO (FU e g) (tj b c g):=by
 cases g with
 |un d f=>induction d with|Not=>exact mC (a.ts f) λh=>mN|_=>exact mC (a.ev _) λh=>mN
 |d i=>exact FX a i|g i=>exact PY a i|o j f k=>exact mC (a.ts j) λl=>tF (λm=>by subst m;exact a.ts f) λm=>by subst m;exact a.ts k|n f n i=>exact mC (a.ev f) λh=>F0 a n h i|_=>exact mC (a.ev _) λh=>mN
end
theorem xT(a)(b)(c d)(e:∀f g,kZ f d=Z g->kZ f c=Z g)(h):A9 (kX a (b+h)) c (gE a b c d h):=by induction h with|zero=>exact⟨λi=>rf,λi=>rf⟩|succ h j=>exact⟨P8 j e,P9 j⟩
noncomputable abbrev lu(a b:Ro):Prop:=∀c d,kZ c a=Z d->kZ c b=Z d
noncomputable def uR(a:Ro->R (Ro×Fl)->List An->Qs)(b:R (Ro×Fl)):Prop:=∃c d,(∀e f g,b=.ok (e,f) g->lu c e)/\mM (a c b d)
theorem sH(a:lu b c)(d:mM (e b (.ok (c,f) g) h)):uR e (.ok (c,f) g):=⟨b,h,λi j k l=>by injection l with m n;injection m with m n;rw[←m];exact a,d⟩
theorem P_{a:R (Ro×Fl)}(b:mM (FO a c d)):uR d a:=by induction c with|nil=>exact Qn.noConfusion (mV b).1|cons e c=>induction e with|s f g h i j k l=>obtain⟨m,n⟩:=mV b;injection m with m;rw[m,k];exact sH l n|_=>exact Qn.noConfusion (mV b).1
theorem nW(a)(b)(c:Ro):kZ a (k9 a b c)=Z b:=by induction c with|nil=>show(bif a==a then Z b else D)=_;rw[beq_self_eq_true];rfl|cons d e f=>show kZ a (bif d.1==a then(a,b)::e else d::k9 a b e)=_;cases g:d.1==a with|true=>show(bif a==a then Z b else _)=_;rw[beq_self_eq_true];rfl|false=>show(bif d.1==a then Z d.2 else kZ a (k9 a b e))=_;exact g▸f
theorem nE(a)(b:Ro)(c:(d==e)=ak):kZ e (k9 d a b)=kZ e b:=by induction b with|nil=>show(bif d==e then Z a else D)=D;rw[c];rfl|cons f g h=>show kZ e (bif f.1==d then(d,a)::g else f::k9 d a g)=(bif f.1==e then Z f.2 else kZ e g);cases i:f.1==d with|true=>show(bif d==e then Z a else kZ e g)=_;rw[aG i,c];rfl|false=>exact(congrArg _ h:(bif f.1==e then Z f.2 else kZ e (k9 d a g))=_)
theorem lu.k9{b c}(a:lu b c)(d:Nat)(e:LV):lu (k9 d e b) (k9 d e c):=λf g h=>by cases i:d==f with|true=>obtain rfl:=aG i;rw[nW]at h⊢;exact h|false=>rw[nE e _ i]at h⊢;exact a f g h
theorem lu.a{b:List (Nat×V)}:∀{c d:Ro},lu c d->lu (b.foldl (λd e=>Mine.Internal.k9 e.1 (.a e.2) d) c) (b.foldl (λd e=>Mine.Internal.k9 e.1 (.a e.2) d) d):=by induction b with|nil=>exact id|cons e a f=>exactλg=>f (g.k9 _ _)
noncomputable abbrev KX:=Ro->R (Ro×Fl)->List An->Qs
noncomputable abbrev SM:=MS->List An->KX->Qs
noncomputable def Qa{a:Type}(b c:Ro)(d:KX)(e:List An)(f:a->MS->Qs):R a->Qs|.ok g h=>f g h|.c i h=>d b (.ok (c,.c i) h) e|.b=>[(.lX,.a)]
noncomputable def SO(a:SM)(b:M (Ro×Fl)):Prop:=∀c d e,mM (a c d e)->uR e (b c)
noncomputable def sx:SM:=λ_ _ _=>[(.lX,.a)]
theorem pF{a:M (Ro×Fl)}:SO sx a:=λ_ _ _ b=>m7 b
noncomputable def sb{a:Type}(b c:Ro)(d:GM a)(e:a->SM):SM:=λf g h=>d f g λi g=>Qa b c h g (λj f=>e j f g h) i
noncomputable def sr(a b:Ro)(c:Fl):SM:=λd e f=>f a (.ok (b,c) d) e
noncomputable def sB(a:Bool)(b c:SM):SM:=λd e f=>AX a e λg e=>bf g (c d e f) (b d e f)
noncomputable def sS{a:Type}(b:Option a)(c:a->SM):SM:=c0 b sx c
theorem nP{a:Type}{b:GM a}{c:M a}{d:a->SM}{e:a->M (Ro×Fl)}(f:lu g h)(i:GO b c)(j:∀k,SO (d k) (e k)):SO (sb g h b d) (lN h c e):=λl m n o=>by obtain⟨m,o⟩:=i _ _ _ o;unfold lN;revert o;cases c l with|ok k p=>exact j k p m n|c o p=>exactλi=>sH f i|b=>exact m7
theorem oo{a b}(c:lu a b):SO (sr a b d) (M.pure (b,d)):=λ_ _ _ e=>sH c e
theorem xU{a}(b:a=I->SO c d)(e:a=ak->SO f d):SO (sB a c f) d:=λg h i j=>by obtain⟨h,j⟩:=FV j;induction a with|true=>exact b rfl g h i j|false=>exact e rfl g h i j
theorem F2{a:Type}{b:Option a}{c:a->SM}{d:Option a->M (Ro×Fl)}(e:∀f,SO (c f) (d (Z f))):SO (sS b c) (d b):=by induction b with|none=>exact pF|some f=>exact e f
noncomputable def rz(a:Nat)(b:Option XK)(c:List V):Option (Bool×XC):=match b with
 |some .a=>match c with
  |[d]=>match d with|.d e=>Z (aE (e.length<=1000),⟨a,0⟩)|_=>D
  |_=>D
 |some .b=>match c with
  |[f,g]=>match f with
   |.a h=>match g with|.a d=>Z (aE (1<=h)&&(aE (h<=100)&&(aE (0<=d)&&aE (d<=100000))),⟨a,h⟩)|_=>D
   |_=>D
  |_=>D
 |D=>D
theorem Qb{a}:tl a b c=(match rz a b c with|some d=>bif d.1 then Z d.2 else D|D=>D):=by
 induction b with|none=>rfl|some b=>induction b with
  |a=>induction c with|nil=>rfl|cons e f=>induction f with|nil=>cases e<;>rfl|cons _ _=>rfl
  |b=>cases c with|nil=>rfl|cons e f=>cases f with|nil=>rfl|cons g f=>induction f with
   |nil=>cases e with|a h=>cases g<;>rfl|_=>rfl
   |cons _ _=>rfl
section
variable(b:PT)(d:nq)(c:Ro->Ro->lT->SM)
noncomputable def Qc(e:Ro->Ro->SM)(a:KX)(b:Ro)(c:R (Ro×Fl))(d:List An):Qs:=match c with|.ok f g=>(match f.2 with|.a=>e b f.1 g d a|e=>a b (.ok (f.1,e) g) d)|_=>[(.lX,.a)]
noncomputable def p9:List lT->Ro->Ro->SM|[],e,f=>sr e f .a|g::h,e,f=>λa b d=>c e f g a b (Qc (p9 h) d)
variable(a:Ro->Ro->GE)
noncomputable def A_(a:List V->SM):Option LV->SM|some (.b e)=>a e|_=>sx
noncomputable def F3(a:V->SM):Option LV->SM|some (.a e)=>a e|_=>sx
noncomputable def F4(a b:Ro)(c:Nat):Option LV->SM|some (.b e)=>sr (k9 c (.a (.c e)) a) (k9 c (.a (.c e)) b) .a|some (.a _)=>sr a b .a|D=>sx
noncomputable def F5(a b:Ro)(c:Nat)(d:List V):V->SM|.c e=>sB (aE (d.length<=4096)&&aE (e.length<=4096)) (sr (k9 c (.b (d++e)) a) (k9 c (.b (d++e)) b) .a) sx|_=>sx
noncomputable def F6(a b:Ro)(c:List Nat):V->SM|.e e=>bf (c.length==e.length) sx (sr ((c.zip e).foldl (λb d=>k9 d.1 (.a d.2) b) a) ((c.zip e).foldl (λb d=>k9 d.1 (.a d.2) b) b) .a)|_=>sx
noncomputable def F7(a:Ro)(b:MS)(c:List An)(d:KX)(e:Ro):Option Hn->Qs|some (.d f)=>d e (.ok (a,.d f) ⟨b.σ,b.mu+3⟩) c|_=>[(.lX,.a)]
noncomputable def F8(a:List (Nat×Hn))(c:KX)(d:Ro)(e:R (Ro×Fl))(f:List An):Qs:=match e with
 |.ok g h=>match g.2 with|.c i=>F7 g.1 h f c d (oN b i a)|j=>c d (.ok (g.1,j) h) f
 |_=>[(.lX,.a)]
noncomputable def F9(a:Nat)(c:KX)(d:Ro)(e:R (Ro×Fl))(f:List An):Qs:=match e with
 |.ok g h=>match g.2 with|.c i=>bf (i.c==a&&(b.a a).isSome&&i.a !=0) [(.lX,.a)] (c [] (.ok ([],.d (.e [.a i.a])) ⟨h.σ,h.mu+3⟩) f)|j=>c d (.ok (g.1,j) h) f
 |_=>[(.lX,.a)]
noncomputable def F_(e f:Ro):lT->SM|.f g h=>sb e f ((a e f).ev h) λi=>sr (k9 g (.a i) e) (k9 g (.a i) f) .a|.c j h=>sb e f ((a e f).ev h) λi=>F6 e f j i|.i k g h=>sb e f ((a e f).ev h) λi=>sb e f ((a e f).ev k) λl=>sb e f (gp (uj b l g i)) λ_=>sr e f .a|.n k m h=>sb e f ((a e f).ev h) λi=>sb e f ((a e f).ev k) λl=>sb e f ((a e f).ev m) λn=>sb e f (gU (rD l n i)) λ_=>sr e f .a|.r g=>sr (k9 g (.b []) e) (k9 g (.b []) f) .a|.j g h=>A_ (λo=>sb e f ((a e f).ev h) λi=>sB (aE (o.length<=4096)) (sr (k9 g (.b (o++[i])) e) (k9 g (.b (o++[i])) f) .a) sx) (kZ g e)|.o g h=>A_ (λo=>sb e f ((a e f).ev h) λi=>F5 e f g o i) (kZ g e)|.m g=>F4 e f g (kZ g e)|.p g p h=>F3 (λq=>sb e f ((a e f).ev h) λk=>sS (ua p q k) λi=>sr (k9 g (.a i) e) (k9 g (.a i) f) .a) (kZ g e)|.q k g p h=>sb e f ((a e f).ev k) λl=>sb e f (gb (gp (vn b l g)) λq=>gb ((a e f).ev h) λk=>gp (M.c (ua p q k))) λi=>sb e f (gp (uj b l g i)) λ_=>sr e f .a|.g h=>sb e f ((a e f).ev h) λ_=>sr e f .a|.k r q k=>sb e f ((a e f).ts r) λs=>sB s (p9 c q e f) (p9 c k e f)|.d h=>sb e f ((a e f).ev h) λi=>sr e f (.d i)|.o0=>sr e f (.d .g)|.e=>sr e f .e|.b t u=>sb e f (rU (a e f) u) λo=>sS (rz t (b.a t) o) λv=>sB v.1 (sr e f (.c v.2)) sx|.l k w=>λx y z=>p9 c k e f x y (F8 b w z)|.s k t=>λx y z=>p9 c k e f x y (F9 b t z)|A=>λx y z=>FO (lV b d f A x) y z
end
noncomputable def gX(a:PT)(b:Nat):Nat->Ro->Ro->lT->SM|0=>λ_ _ _=>sx|c+1=>F_ a (kX a (b+c)) (gX a b c) λd e=>gE a b e d c
structure qI(K:nq)(X:Ro->Ro->lT->SM):Prop where ex:∀env ρ,lu env ρ->∀s,SO (X env ρ s) (K.ex ρ s)
section
variable{b:PT}{c:nq}{d:Ro->Ro->lT->SM}(a:qI c d)
include a
omit a in
theorem Ba{e:Prop}(b:uR f g)(c:∀h i j k l,g=.ok (h,i) j->lu k h->mM (f k g l)->e)(d:∀k m j l,mM (f k (.c m j) l)->e)(n:∀k l,mM (f k .b l)->e):e:=by obtain⟨k,l,o,b⟩:=b;induction g with|ok p j=>obtain⟨h,i⟩:=p;exact c h i j k l rfl (o _ _ _ rfl) b|c m j=>exact d _ _ _ _ b|b=>exact n _ _ b
theorem sI(e):∀f g,lu f g->SO (p9 d e f g) (lH c e g):=by induction e with|nil=>exactλf g b=>oo b|cons h i j=>refineλf g b k l m n=>Ba (a.ex _ _ b h _ _ _ n) (λo p q r l s t n=>?_) (λ_ _ _ _ n=>m7 n) λ_ _ n=>m7 n;rw[s]at n;rw[show lH c (h::i) g k=_ from M.lO s];induction p with|a=>exact j _ _ t _ _ _ n|_=>exact sH t n
omit a in
theorem Ga{e f}(b:lu e f){g:List V->M (Ro×Fl)}(c:∀h,SO (i h) (g h)):SO (A_ i (kZ j e)) (match kZ j f with|some (.b h)=>g h|_=>M.b:M (Ro×Fl)):=by cases d:kZ j e with|none=>exact pF|some k=>rw[b j _ d];induction k with|a _=>exact pF|b h=>exact c h
omit a in
theorem Qd{e f}(b:lu e f){g:V->M (Ro×Fl)}(c:∀h,SO (i h) (g h)):SO (F3 i (kZ j e)) (match kZ j f with|some (.a h)=>g h|_=>M.b:M (Ro×Fl)):=by cases d:kZ j e with|none=>exact pF|some k=>rw[b j _ d];induction k with|b _=>exact pF|a h=>exact c h
omit a in
theorem Qe{e f}(b:lu e f):SO (F4 e f g (kZ g e)) (match kZ g f with|some (.b h)=>M.pure (k9 g (.a (.c h)) f,.a)|_=>M.pure (f,.a):M (Ro×Fl)):=by cases c:kZ g e with|none=>exact pF|some d=>rw[b g _ c];induction d with|a _=>exact oo b|b h=>exact oo (b.k9 _ _)
omit a in
theorem Qf(b:SO e f):SO (sB g e sx) (if g=I then f else M.b):=xU (λc=>by rw[if_pos c];exact b) λ_=>pF
omit a in
theorem Qg{e:Prop}[Decidable e]{f}(b:SO f g):SO (sB (aE e) f sx) (if e then g else M.b):=xU (λc=>by rw[if_pos (of_decide_eq_true c)];exact b) λ_=>pF
omit a in
theorem Qh{e f:Ro}(b:lu e f):SO (F6 e f g h) (match mJ (.inr g) h f with|some i=>M.pure (i,.a)|D=>M.b:M (Ro×Fl)):=by
 cases h with
 |e c=>show SO (dX sx _ (g.length==c.length)) (match(bif g.length==c.length then Z _ else D)with|some i=>M.pure (i,.a)|D=>M.b:M (Ro×Fl));cases g.length==c.length with|true=>exact oo b.a|false=>exact pF
 |_=>exact pF
omit a in
theorem Qi{e f}(b:lu e f):SO (F5 e f g h i) (match i with|.c j=>if h.length<=4096&&j.length<=4096 then M.pure (k9 g (.b (h++j)) f,.a)else M.b|_=>M.b:M (Ro×Fl)):=by cases i with|c j=>exact Qf (oo (b.k9 _ _))|_=>exact pF
theorem Qj{e f}(g:lu e f):SO (λh i j=>p9 d k e f h i (F8 b l j)) (M.bind (lH c k f) λm=>match m.2 with|.c n=>(match oN b n l with|some o=>λh=>qX m.1 o ⟨h.σ,h.mu+3⟩|D=>M.b)|_=>M.pure m):=by
 refineλh i j o=>Ba (sI a k _ _ g _ _ _ o) (λp q r s i t k o=>?_) (λ_ _ _ _ o=>m7 o) λ_ _ o=>m7 o;unfold M.bind;rw[t]at o⊢;induction q with
 |c n=>revert o;show mM (F7 p r i j s (oN b n l))->uR j ((match oN b n l with|some o=>λh=>qX p o ⟨h.σ,h.mu+3⟩|D=>M.b:M (Ro×Fl)) r);cases oN b n l with|none=>exact m7|some o=>induction o with|d u=>exact sH k|_=>exact m7
 |_=>exact sH k o
theorem Qk{e f}(g:lu e f):SO (λh i j=>p9 d k e f h i (F9 b l j)) (M.bind (lH c k f) λm=>match m.2 with|.c n=>if n.c==l&&(b.a l).isSome&&n.a !=0 thenλh=>.ok ([],.d (.e [.a n.a])) ⟨h.σ,h.mu+3⟩else M.b|_=>M.pure m):=by
 refineλh i j o=>Ba (sI a k _ _ g _ _ _ o) (λp q r s i t k o=>?_) (λ_ _ _ _ o=>m7 o) λ_ _ o=>m7 o;unfold M.bind;rw[t]at o⊢;induction q with
 |c n=>revert o;show mM (dX _ _ (n.c==l&&(b.a l).isSome&&n.a !=0))->uR j ((if(n.c==l&&(b.a l).isSome&&n.a !=0)=I then _ else _:M (Ro×Fl)) r);cases n.c==l&&(b.a l).isSome&&n.a !=0 with|true=>exact sH λ_ _ n=>nn n|false=>exact m7
 |_=>exact sH k o
theorem Ql{e:Ro->Ro->GE}(f:∀g h,lu g h->A9 c h (e g h))(g h)(i:lu g h)(j):SO (F_ b c d e g h j) (lV b c h j):=by have k:=f g h i;cases j with|f l m=>exact nP i (k.ev m) λn=>oo (i.k9 _ _)|c o m=>exact nP i (k.ev m) λn=>Qh i|i p l m=>exact nP i (k.ev m) λn=>nP i (k.ev p) λq=>nP i mN λ_=>oo i|n p r m=>exact nP i (k.ev m) λn=>nP i (k.ev p) λq=>nP i (k.ev r) λs=>nP i PX λ_=>oo i|r l=>exact oo (i.k9 _ _)|j l m=>exact Ga i λt=>nP i (k.ev m) λn=>Qg (oo (i.k9 _ _))|o l m=>exact Ga i λt=>nP i (k.ev m) λn=>Qi i|m l=>exact Qe i|p l u m=>exact Qd i λq=>nP i (k.ev m) λn=>F2 (d:=λv=>lN h (M.c v) λn=>M.pure (k9 l (.a n) h,.a)) λn=>oo (i.k9 _ _)|q p l u m=>exact nP i (k.ev p) λq=>nP i (mC mN λn=>mC (k.ev m) λw=>mN) λn=>nP (c:=uj b q l n) i mN λ_=>oo i|g m=>exact nP i (k.ev m) λn=>oo i|k x p y=>exact nP i (k.ts x) λz=>xU (λA=>by subst A;exact sI a p _ _ i) λA=>by subst A;exact sI a y _ _ i|d m=>exact nP i (k.ev m) λn=>oo i|o0=>exact oo i|e=>exact oo i|b B C=>refine nP i (tG k C) λt=>?_;rw[Qb];exact F2 (d:=λ(v:Option (Bool×XC))=>(match(match v with|some E=>bif E.1 then Z E.2 else D|D=>D:Option XC)with|some l=>M.pure (h,.c l)|D=>M.b:M (Ro×Fl))) λE=>xU (λA=>by show SO _ (match(bif E.1 then Z E.2 else D:Option XC)with|some l=>M.pure (h,.c l)|D=>M.b:M (Ro×Fl));refine A▸?_;exact oo i) λ_=>pF|l p F=>exact Qj a i|s p B=>exact Qk a i|_=>exactλG H J L=>P_ L
end
theorem xV(a)(b c):qI (kX a (b+c)) (gX a b c):=by induction c with|zero=>exact⟨λ_ _ _ _=>pF⟩|succ c d=>exact⟨λe f g h=>Ql d (λe f g=>xT a b f e g c) e f g h⟩
noncomputable def Gb(a:PT)(b c d:Nat)(e:List V)(f:MS)(g:List An)(h:R V->List An->Qs):Qs:=match a.fn d with|some i=>bif e.length.ble i.a.length&&(oA i.a.length e i.b).length.beq i.a.length then p9 (gX a b c) i.c ((i.a.zip (oA i.a.length e i.b)).map λj=>(j.1,.a j.2)) ((i.a.zip (oA i.a.length e i.b)).map λj=>(j.1,.a j.2)) f g λ_ k g=>h (o5 k) g else[(.lX,.a)]|D=>[(.lX,.a)]
theorem Bb(a:Fin (λb _=>[(Qn.v b,.v c)]) b):b=c:=by obtain⟨_,a⟩:=a;injection(mV a).1
end GW
open GW
theorem lq(a)(b:mM (Gb c d e f g h a λi _=>[(.v i,.v j)])):(kX c (d+e+1)).l f g h=j:=by refine Bb ?_;show Fin _ (um c (kX c (d+e)) f g h);unfold Gb at b;unfold um;revert b;cases c.fn f with|none=>exact m7|some k=>dsimp only;cases g.length.ble k.a.length&&(oA k.a.length g k.b).length.beq k.a.length with|false=>exact m7|true=>intro b;obtain⟨_,a,_,b⟩:=sI (xV c d e) _ _ _ (λ_ _ l=>l) _ _ _ b;exact mf a b
theorem l7(a:lu b c)(d)(e:mM ((gE f g c b h).ev i j d λk _=>[(.v k,.v l)])):(kX f (g+h)).ev c i j=l:=Bb ((xT f g c b a h).ev _ _ _ _ e)
theorem oq(a:lu b c)(d)(e:mM ((gE f g c b h).ts i j d λk _=>[(.t k,.t l)])):(kX f (g+h)).b c i j=l:=by obtain⟨_,e⟩:=(xT f g c b a h).ts _ _ _ _ e;injection(mV e).1
theorem mq{a:R V}(b:a=.ok (.a c) d)(e:c=f):a=.ok (.a f) d:=e▸b
theorem uS(a:lu b c)(d)(e:mM (xQ (gE f g c b h) i j d λk _=>[(.t k,.t l)])):oZ (kX f (g+h)) c i j=l:=by obtain⟨_,e⟩:=FX (xT f g c b a h) i _ _ _ e;injection(mV e).1
theorem p_(a:lu b c)(d)(e:mM (p9 (gX f g h) i b c j d λ_ k _=>[(.v (o5 k),.v l)])):o5 (lH (kX f (g+h)) i c j)=l:=by obtain⟨_,d,_,e⟩:=sI (xV f g h) _ _ _ a _ _ _ e;exact Bb (b:=o5 _) ⟨d,e⟩
theorem uT(a:lu b c)(d)(e:mM (p9 (gX f g h) i b c j d λ_ k _=>[(.s k,.s l)])):lH (kX f (g+h)) i c j=l:=by obtain⟨_,d,_,e⟩:=sI (xV f g h) _ _ _ a _ _ _ e;injection(mV e).1
noncomputable def GW.kB(a:Ro)(b:MS)(c:Ro)(d:R (Ro×Fl)):Qs:=match d with
 |.ok e f=>(.m f,.m b)::match e.2 with|.a=>a.map λg=>(.l (kZ g.1 c),.l (Z g.2))|.e=>a.map λg=>(.l (kZ g.1 c),.l (Z g.2))|_=>[(.lX,.a)]
 |_=>[(.lX,.a)]
theorem GW.Gc(a:lu b c)(d):mM (d.map λe=>(.l (kZ e.1 b),.l (Z e.2)))->lu d c:=by induction d with|nil=>exactλ_ _ _ f=>nn f|cons g h i=>intro j;refine lA (mV j) λk l=>?_;injection k with k;intro m n f;have f:(bif g.1==m then Z g.2 else kZ m h)=Z n:=f;cases e:g.1==m with|true=>rw[e]at f;exact(aG e)▸(a _ _ k)▸f|false=>rw[e]at f;exact i l m n f
theorem ot(a:lu b c)(d)(e:mM (p9 (gX f g h) i b c j d λb k _=>kB l m b k)):∃n o,lH (kX f (g+h)) i c j=.ok (n,o) m/\(o=.a\/o=.e)/\lu l n:=by obtain⟨p,d,q,e⟩:=sI (xV f g h) _ _ _ a _ _ _ e;revert e q;cases lH (kX f (g+h)) i c j with|c r s=>exactλ_ e=>m7 e|b=>exactλ_ e=>m7 e|ok t s=>obtain⟨n,o⟩:=t;intro q e;replace q:=q _ _ _ rfl;refine lA (mV e) λu e=>?_;injection u with u;rw[u];induction o with|a=>exact mh _ _ rfl (.inl rfl) (Gc q _ e)|e=>exact mh _ _ rfl (.inr rfl) (Gc q _ e)|_=>exact m7 e
theorem qa(a){b}(c:lS b d ak e f g=.ok h i)(j:mT b k l h d i=.ok (m,n) o):lV a b d (.h k e f l) g=.ok (m,n) o:=by show lN d (lS b d ak e f) (λh=>mT b k l h d) g=_;unfold lN;rw[c];exact j
theorem oU{a}{b:Ro->Prop}(c:∃d e,lH a f g h=.ok (d,e) h/\(e=.a\/e=.e)/\lu i d)(j:∀d,lu i d->b d):∃d e,lH a f g h=.ok (d,e) h/\(e=.a\/e=.e)/\b d:=by refine lP c λd e k l m=>?_;exact mh (d) e k l (j d m)
theorem tH{a}(b)(c:a.ev d e f=.ok (.c g) h):lS a d b 0 [e] f=.ok g h:=by show M.bind (a.ev d e) (th b) f=_;unfold M.bind;rw[c];induction b<;>rfl
theorem Qm{a}(b:a.ev c d e=.ok (.b f) g)(h:g.σ[f]?=Z (.c i)):lS a c I 0 [d] e=.ok i g:=by show M.bind (a.ev c d) rH e=_;unfold M.bind;rw[b];show rH (.b f) g=_;unfold rH;dsimp only;exact h▸rfl
theorem v9(a):Z (LV.b a)=Z (.b (a++[])):=by rw[cU]
theorem m8:lu a a:=λ_ _ b=>b
theorem lD:lu [] a:=λ_ _ b=>nn b
theorem la(a:kZ b c=Z d)(e:lu f c):lu ((b,d)::f) c:=λg h i=>by have i:(bif b==g then Z d else kZ g f)=Z h:=i;cases j:b==g with|true=>rw[j]at i;exact(aG j)▸a▸i|false=>rw[j]at i;exact e g h i
theorem tI(a:b=I)(c:d=I):(b&&d)=I:=by rw[a,c];rfl
theorem Qo(a:b=ak):(c&&b)=ak:=by exact a.symm▸(Bool.and_false c)
theorem mG{a:Prop}[b:Decidable a](c:a):aE a=I:=decide_eq_true c
theorem rh{a:Prop}[b:Decidable a](c:¬a):aE a=ak:=decide_eq_false c
theorem m9{a b:Int}(c:a=b):(a==b)=I:=beq_iff_eq.mpr c
theorem Qp{a b:Int}(c:¬a=b):(a==b)=ak:=beq_eq_false_iff_ne.mpr c
noncomputable abbrev GW.An.y:An:=.b I I rfl
noncomputable abbrev GW.An.n:An:=.b ak ak rfl
theorem oV{a}(b:a.ex c d e=.ok (f,.a) g)(h:lH a i f g=j):lH a (d::i) c e=j:=(M.lO b).trans h
theorem qJ{a:Type}{b:M a}{c:a->M (Ro×Fl)}{d:a}(e:b f=.ok d g):lN h b c f=c d g:=by unfold lN;exact e.symm▸rfl
theorem xr{a}(b:a.ex c d e=.ok (f,.d g) h):lH a (d::i) c e=.ok (f,.d g) h:=M.lO b
theorem Ge{a}{b}{c}{d:R (Ro×Fl)}(e:(kX f a).b c b g=.ok I h)(i:lH (kX f a) j c h=d):(kX f (a+1)).ex c (.k b j k) g=d:=(qJ e).trans i
theorem Bc(a:(kX b c).ev d e f=.ok g h)(i:(kX b c).ev d j h=.ok k l)(m:lU n g k=Z o):(kX b (c+1)).ev d (.k n e j) f=.ok o l:=(M.lO a).trans ((M.lO i).trans (congrArg (λp=>M.c p l) m))
theorem Gf(a:(kX b c).ev d e f=.ok g h)(i:l6 j [g] h=k):(kX b (c+1)).ev d (.l6 j [e]) f=k:=by have l:mw (kX b c) d [e] f=.ok [g] h:=M.lO a;exact(M.lO l).trans i
theorem Qq{a}{b}{c d}(e:(kX f a).ev b g c=.ok h d):(kX f (a+1)).ex b (.d g) c=.ok (b,.d h) d:=qJ e
theorem Bd{a b}{c}{d e}(f:(kX g a).ev c h d=.ok i e):(kX g (a+1)).ex c (.f b h) d=.ok (k9 b (.a i) c,.a) e:=qJ f
theorem Gg(a:(kX b c).b d e f=.ok I g)(h:lH (kX b c) i d g=.ok (j,k) l)(m:k=.a\/k=.e)(n:(kX b c).ex j (.a e i) l=o):(kX b (c+1)).ex d (.a e i) f=o:=by
 have p:qW ((kX b c).b d e) f=.ok I g:=by unfold qW;rw[a]
 refine(M.lO p).trans ((M.lO h).trans ?_);rcases m with rfl|rfl<;>exact n
theorem Gh(a:(kX b c).b d e f=.ok ak g):(kX b (c+1)).ex d (.a e h) f=.ok (d,.a) g:=by
 have i:qW ((kX b c).b d e) f=.ok ak g:=by unfold qW;rw[a]
 exact M.lO i
theorem Qr(a:b=.ok (c,.d d) e):o5 b=.ok d e:=a▸rfl
theorem Gi(a:b=.ok (c,.a) d):o5 b=.ok .g d:=a▸rfl
theorem Qt(a:(kX b c).ev d e f=.ok g h)(i:(kX b c).ev d j h=.ok k l)(m:mz n g k l=.ok o p):(kX b (c+1)).b d (.n e [n] [j]) f=.ok o p:=(M.lO a).trans ((M.lO i).trans m)
theorem Qu(a:(kX b c).b d e f=.ok ak g)(h:(kX b c).b d i g=.ok ak j):(kX b (c+1)).b d (.g [e,i]) f=.ok ak j:=(M.lO a).trans (M.lO h)
theorem Qv{a}{b}{c}(d:(kX e a).b c b f=.ok ak g):(kX e (a+1)).ex c (.k b h []) f=.ok (c,.a) g:=qJ d
theorem Gj{a b}{c:Nat⊕List Nat}{d}{e f}{g}{h:R (Ro×Fl)}(i:lS (kX j a) k ak b l e=.ok g f)(m:mT (kX j a) c d g k f=h):(kX j (a+1)).ex k (.h c b l d) e=h:=(qJ i).trans m
theorem Qw(a:(kX b c).ev d e f=.ok (.e g) h):lS (kX b c) d ak 0 [e] f=.ok g h:=M.lO a
theorem Qx(a:(kX b c).ev d e f=.ok g h)(i:(kX b c).ev d j h=.ok k l)(m:mz n g k l=.ok o p):(kX b (c+1)).ev d (.n e [n] [j]) f=.ok (.h o) p:=by have q:qw (kX b c) d g [n] [j] h=.ok o p:=(M.lO i).trans m;exact(M.lO a).trans (M.lO q)
theorem Qy(a:(kX b c).ev d e f=.ok g h)(i:(kX b c).ev d j h=.ok k l):mw (kX b c) d [e,j] f=.ok [g,k] l:=by have m:mw (kX b c) d [j] h=.ok [k] l:=M.lO i;exact(M.lO a).trans (M.lO m)
end
section
section
variable{a:PT}{b:Nat}{c:Ro}{d:MS}
end
section
variable{a:Nat}{b:MS}{c d e f g h i j:V}
theorem Be:(kX lj (a+1)).l 263 [c,d,e,f,g] b=o5 (lH (kX lj a) (nM 263) [(53,.a c),(35,.a d),(36,.a e),(17,.a f),(18,.a g),(19,.a (.a 0)),(20,.a (.a 0))] b):=rfl
theorem Qz:(kX lj (a+1)).l 557 [c,d,e] b=o5 (lH (kX lj a) (nM 557) [(53,.a c),(36,.a d),(77,.a e)] b):=rfl
theorem QA:(kX lj (a+1)).l 564 [c,d,e] b=o5 (lH (kX lj a) (nM 564) [(53,.a c),(36,.a d),(43,.a e)] b):=rfl
theorem QB:(kX lj (a+1)).l 890 [c,d] b=o5 (lH (kX lj a) (nM 890) [(27,.a c),(28,.a d)] b):=rfl
end
structure Q where
 lE:Int
 ws:List (Int×Int)e:Int
 d:List Int
 f:List (Int×Int)b:List (Int×Int×Int)c:List (Int×Int×Int)a:List Int
noncomputable def vI(a:List (Int×Int)):List (Int×V):=a.map λb=>(b.1,.a b.2)
noncomputable def vP(a:List (Int×Int×Int)):List (Int×V):=a.map λb=>(b.1,.e [.a b.2.1,.a b.2.2])
noncomputable def vL(a:List Int):List V:=a.map .a
noncomputable def St(a:Q):List MO:=[.b [(21,.a 1024),(22,.a 0),(23,.a 1024),(72,.b 2)],.a 607 0,.m (vI a.ws),.b [(56,.a 4),(57,.a 2),(58,.a 16),(59,.a 4),(60,.a 64),(23,.a 256)],.a 182 3,.b [(41,.b 1),(22,.a 512),(43,.a a.lE),(21,.a 16),(85,.h I),(86,.a a.e),(87,.b 7),(88,.b 8)],.a 834 5,.c (vL a.d),.m (vI a.f),.b [(41,.b 1),(66,.b 4),(68,.b 6)],.a 418 9,.b [(41,.b 1),(82,.b 13)],.a 714 11,.c [],.b [(65,.b 12),(66,.b 4)],.a 266 14,.m (vP a.b),.m (vP a.c),.c (vL a.a)]
noncomputable abbrev Rt(a b:Nat)(c:List V)(d:MS)(e:V)(f:MS):Prop:=(kX lj a).l b c d=.ok e f
noncomputable abbrev Rx(a b:Nat)(c:List V)(d:MS)(e:XC)(f:MS):Prop:=(kX lj a).l b c d=.c e f
noncomputable abbrev Rq(a b:Nat)(c:List V)(d:Q)(e:Nat)(f:V)(g:Q)(h:Nat):Prop:=(kX lj a).l b c ⟨St d,e⟩=.ok f ⟨St g,h⟩
noncomputable abbrev Rs(a b:Nat)(c:List V)(d:Q)(e:Nat)(f:V):Prop:=(kX lj a).l b c ⟨St d,e⟩=.ok f ⟨St d,e⟩
noncomputable abbrev Rz(a b:Nat)(c:List V)(d:Q)(e:Nat)(f:XC)(g:Q)(h:Nat):Prop:=(kX lj a).l b c ⟨St d,e⟩=.c f ⟨St g,h⟩
section
variable(a:Q)
theorem U4:(St a)[1]?=Z (.a 607 0):=rfl
theorem U5:(St a)[2]?=Z (.m (vI a.ws)):=rfl
theorem Gk(b):(St a).set 2 (.m (vI b))=St {a with ws:=b}:=rfl
theorem Gl(b):(St a).set 7 (.c (vL b))=St {a with d:=b}:=rfl
theorem Gm(b):(St a).set 8 (.m (vI b))=St {a with f:=b}:=rfl
theorem Gn(b):(St a).set 16 (.m (vP b))=St {a with b:=b}:=rfl
theorem QC(b):(St a).set 17 (.m (vP b))=St {a with c:=b}:=rfl
theorem Go(b):(St a).set 18 (.c (vL b))=St {a with a:=b}:=rfl
end
noncomputable def lz{a:Type}(b:Int)(c:List (Int×a)):Option a:=(c.find? λd=>aE (d.1=b)).map (·.2)
theorem qK{a:Type}(b)(c:Int×a)(d):lz b (c::d)=if c.1=b then Z c.2 else lz b d:=by
 unfold lz;by_cases e:c.1=b;·exact(congrArg (ii _) (jN (p:=λf:Int×a=>aE (f.1=b)) (decide_eq_true e))).trans (if_pos e).symm
 ·exact(congrArg (ii _) (jO (p:=λf:Int×a=>aE (f.1=b)) λg=>e (of_decide_eq_true g))).trans (if_neg e).symm
theorem Gp{a:Type}(b:a->V)(c):∀d:List (Int×a),mL c (d.map λe=>(e.1,b e.2))=(lz c d).map b:=by
 intro d;induction d with|nil=>exact rfl|cons e d f=>
  refine(qK (a:=V) c (e.1,b e.2) _).trans (ah ?_ (congrArg (ii b) (qK c e d).symm));by_cases g:e.1=c;·rw[if_pos g,if_pos g];rfl
  ·rw[if_neg g,if_neg g];exact f
theorem uU(a)(b:List (Int×Int)):mL a (vI b)=(lz a b).map .a:=Gp _ a b
noncomputable def lI(a:List (Int×Int))(b:Int):Int:=(lz b a).getD 0
section
variable{d:PT}{e:Nat}{a:Ro}{b:MS}{c:nq}
theorem nF{f g:Type}(h:M f)(i:f->M g):M.bind h i b=(match h b with|.ok j k=>i j k|.c l k=>.c l k|.b=>.b):=rfl
theorem Gq{f:Type}(g:M f)(h:f->M (Ro×Fl)):lN a g h b=(match g b with|.ok i j=>h i j|.c k j=>.ok (a,.c k) j|.b=>.b):=rfl
theorem QD(f):(kX d (e+1)).ev a (.b f) b=(match kZ f a with|some (.a g)=>M.pure g|_=>M.b:M V) b:=rfl
theorem QE(f):(kX d (e+1)).ev a (.e f) b=M.bind (mw (kX d e) a f) (λg=>if g.length<=4096 then M.pure (.e g)else M.b) b:=rfl
theorem sJ(c:kZ f a=Z (.a g)):(kX d (e+1)).ev a (.b f) b=.ok g b:=by rw[QD,c];rfl
theorem xW(c:kZ f a=Z (.a (.c g))):lS (kX d (e+1)) a h 0 [.b f] b=.ok g b:=tH h (sJ c)
theorem xX(f)(g):mw c a (f::g) b=M.bind (c.ev a f) (λh=>M.bind (mw c a g) λi=>M.pure (h::i)) b:=rfl
theorem QF(f)(g):qv c a (f::g) b=M.bind (c.b a f) (λh=>bif h then M.pure I else qv c a g) b:=rfl
theorem Gs(f)(g):lH c (f::g) a b=M.bind (c.ex a f) (λh=>match h.2 with|.a=>lH c g h.1|i=>M.pure (h.1,i)) b:=rfl
theorem QG(f)(g):(kX d (e+1)).ex a (.c f g) b=lN a ((kX d e).ev a g) (λh=>match mJ (.inr f) h a with|some i=>M.pure (i,.a)|D=>M.b) b:=rfl
theorem QH(f)(g):(kX d (e+1)).ex a (.j f g) b=(match kZ f a with|some (.b h)=>lN a ((kX d e).ev a g) (λi=>if h.length<=4096 then M.pure (k9 f (.b (h++[i])) a,.a)else M.b)|_=>M.b:M (Ro×Fl)) b:=rfl
theorem QI(f:Nat⊕List Nat)(g)(h)(i):mT c f g (h::i) a b=M.lG (mJ f h a) (λj=>M.bind (lH c g j) λk=>match k.2 with|.d h=>M.pure (k.1,.d h)|.c _=>M.b|_=>mT c f g i k.1) b:=rfl
theorem QJ{f g:Type}(h:f)(i:f->M g):M.lG (Z h) i b=i h b:=rfl
theorem QK(f)(g):lS c a g 1 f b=M.bind (mw c a f) (λh=>M.c (qr h)) b:=rfl
theorem QL(f):lS c a I 0 [f] b=M.bind (c.ev a f) (λg=>rH g) b:=rfl
theorem QM(f g):lU .Mult (.a f) (.a g)=(if oX f&&oX g then Z (.a (f*g))else D):=rfl
theorem QN(f g):lU .FloorDiv (.a f) (.a g)=(if 0<g&&g<1073741824 then Z (.a (f/g))else D):=rfl
theorem Gu(f g):lU .Pow (.a f) (.a g)=(if oX f&&0<=g&&g<=1000 then Z (.a (f^g.toNat))else D):=rfl
theorem QO(f g):lU .LShift (.a f) (.a g)=(if oX f&&0<=g&&g<=1000 then Z (.a (f*2^g.toNat))else D):=rfl
theorem QP(f g):mz .NotEq (.a f) (.a g) b=.ok (!(f==g)) b:=rfl
end
section
variable{a:PT}{b:Nat}{c:Ro}{d:MS}{e:nq}
end
section
variable{a:Q}{b c:Nat}{d:Ro}{e:nq}{f:List ls}
end
end
section
noncomputable def mc{a:Type}(b:Int)(c:a)(d:List (Int×a)):List (Int×a):=if d.any (λe=>aE (e.1=b))then d.map (λe=>if e.1=b then(e.1,c)else e)else d++[(b,c)]
noncomputable def mH{a:Type}(b:Int)(c:List (Int×a)):List (Int×a):=c.filter λd=>aE (d.1≠b)
theorem Gv{a:Type}(b:a->V)(c d)(e:List (Int×a)):pT c (b d) (e.map λf=>(f.1,b f.2))=(mc c d e).map λf=>(f.1,b f.2):=by
 delta pT mc;have g:(e.map λf=>(f.1,b f.2)).any (λf=>aE (f.1=c))=e.any λf=>aE (f.1=c):=List.any_map;refine g.symm▸?_;split
 ·refine b_▸?_;refine ah ?_ List.map_map.symm;refine hY λf _=>?_;show(if f.1=c then(f.1,b d)else(f.1,b f.2))=(λh:Int×a=>(h.1,b h.2)) (if f.1=c then(f.1,d)else f);by_cases i:f.1=c;·rw[if_pos i,if_pos i]
  ·rw[if_neg i,if_neg i]
 ·refine ah ?_ List.map_append.symm;rfl
theorem Gw(a b)(c):pT a (.a b) (vI c)=vI (mc a b c):=Gv _ a b c
theorem Gx{a:Type}(b:a->V)(c)(d:List (Int×a)):qU c (d.map λe=>(e.1,b e.2))=(mH c d).map λe=>(e.1,b e.2):=List.filter_map
theorem Gy(a)(b):qU a (vI b)=vI (mH a b):=Gx _ a b
theorem QQ{a:Type}(b c d):∀e:List (Int×a),lz d (e.map (λf=>if f.1=b then(f.1,c)else f))=if d=b then(lz d e).map λ_=>c else lz d e:=by
 intro g;induction g with
 |nil=>
  simp[lz]|cons f e h=>
  refine ah (congrArg _ dr) ?_;rw[qK,qK,h];by_cases i:f.1=b
  ·induction i;by_cases j:f.1=d;·refine j▸?_;simp
   ·have:¬d=f.1:=λk=>j k.symm;simp[j,this]
  ·simp only[i,if_false];by_cases j:f.1=d;·induction j;simp[i]
   ·simp[j]
theorem QR{a:Type}(b c d):∀e:List (Int×a),lz b (e++[(c,d)])=match lz b e with|some f=>Z f|D=>if b=c then Z d else D:=by
 intro g;induction g with|nil=>
  by_cases h:c=b;·induction h;simp[lz]
  ·have:¬b=c:=λi=>h i.symm;simp[h,this,lz]|cons j e k=>refine ah (congrArg _ iG) ?_;rw[qK,qK,k];by_cases h:j.1=b<;>simp[h]
theorem xY{a:Type}(b):∀c:List (Int×a),c.any (λd=>aE (d.1=b))=(lz b c).isSome:=by intro e;induction e with|nil=>exact rfl|cons d c f=>refine ah ik ?_;rw[qK,f];by_cases g:d.1=b<;>simp[g]
theorem rV{a:Type}(b c d)(e:List (Int×a)):lz b (mc c d e)=if b=c then Z d else lz b e:=by
 unfold mc;rw[xY];split
 ·rename_i f;rw[QQ];by_cases g:b=c;·subst g;refine lp (Option.isSome_iff_exists.mp f) λh i=>?_;simp[i]
  ·simp[g]
 ·rename_i f;rw[QR];by_cases g:b=c;·subst g;simp[(by simpa using f)]
  ·simp only[g,if_false];cases lz b e<;>rfl
theorem v_{a:Type}(b c):∀d:List (Int×a),lz b (mH c d)=if b=c then D else lz b d:=by
 intro e;induction e with
 |nil=>
  simp[lz,mH]|cons f d g=>
  have h:=g;unfold mH at*;refine ah (congrArg _ cq) ?_;by_cases i:f.1=c
  ·have:aE (f.1≠c)=ak:=by simp[i]
   rw[this,if_neg (by simp),h,qK];by_cases j:b=c;·simp[j]
   ·have:¬f.1=b:=λk=>j (k▸i);simp[j,this]
  ·have:aE (f.1≠c)=I:=by simp[i]
   rw[this,if_pos rfl,qK,qK,h];by_cases j:f.1=b;·have:¬b=c:=λk=>i (j.trans k);simp[j,this]
   ·simp[j]
theorem tJ{a:Type}(b c)(d:List (Int×a)):(mc b c d).length<=d.length+1:=by
 unfold mc;split;·rw[ay];exact aL _
 ·rw[aW];exact al _
theorem Bf{a:Type}(b)(c:List (Int×a)):(mH b c).length<=c.length:=bp ..
noncomputable def lJ(a:List (Int×Int))(b c:Int):List (Int×Int):=if c=0 then mH b a else mc b c a
theorem ni(a)(b c d):lI (lJ a b c) d=if d=b then c else lI a d:=by
 delta lI lJ;split;·rename_i e;rw[v_];by_cases f:d=b<;>simp[f,e]
 ·rw[rV];by_cases f:d=b<;>simp[f]
theorem pG(a)(b c):(lJ a b c).length<=a.length+1:=by
 unfold lJ;split;·exact ao (Bf _ _) (aL _)
 ·exact tJ _ _ _
theorem QS{a:Type}(b)(c:List (Int×a))(d:lz b c=D):mH b c=c:=by unfold mH;rw[List.filter_eq_self];intro e f;have:=xY b c;rw[d]at this;have:=List.any_eq_false.mp this e f;simpa using this
section
variable(c:Nat)(a:Q)(b:Nat)
theorem Gz(d)(e:0<=d)(f:d+4<=1024)(g:d%4=0):Rs (c+8) 473 [.b 1,.a d,.a 4] a b .g:=by exact lq [.b _ _ (congrArg dF (m9 (g:d%4=0))),.b _ _ (rh ((Y [d] [] ⟨[3,2,1],[.m .a 4],[.l .o .a,.e .c .o],.N (.t .a .o)⟩) e g:¬(d<0))),.b _ _ (rh ((Y [d] [] ⟨[3,2,1],[.m .a 4],[.l (.p .a (.k 4)) (.k 1024),.e .c .o],.N (.t (.k 1024) (.p .a (.k 4)))⟩) f g:¬(1024<d+4))),.n] (by kernel_rfl)
theorem tK(d):(vI d).length=d.length:=ay ..
theorem ri(d)(e:0<=d)(f:d+4<=1024)(g:d%4=0)(h:a.ws.length<=4096):Rs (c+12) 480 [.b 1,.a d] a b (.a (lI a.ws (d/4))):=by
 have i:qu lj 96 2 [.a (d/4),.a 0] ⟨St a,b⟩=.ok (.a (lI a.ws (d/4))) ⟨St a,b⟩:=by show(if(vI a.ws).length<=4096 then R.ok ((mL (d/4) (vI a.ws)).getD (.a 0)) ⟨St a,b⟩else R.b)=_;refine ah (if_pos (by rw[tK];exact h)) ?_;rw[uU];unfold lI;cases lz (d/4) a.ws<;>rfl
 exact lq [.v _ _ (Gz (c+1) a b d e f g),.v _ _ i] (by kernel_rfl)
theorem wa(d e)(f:a.ws.length<=4096):∃g,∀c,Rq (c+9) 494 [.b 1,.a d,.a e] a b .g {a with ws:=lJ a.ws d e} g:=by
 by_cases h:e=0
 ·subst h;cases i:lz d a.ws with|none=>
   have j:qu lj 126 2 [.a d,.g] ⟨St a,b⟩=.ok .g ⟨St {a with ws:=lJ a.ws d 0},b⟩:=by
    show(if(vI a.ws).length<=4096 then(match mL d (vI a.ws)with|some k=>R.ok k ⟨(St a).set 2 (.m (qU d (vI a.ws))),b+1⟩|D=>R.ok V.g ⟨St a,b⟩)else R.b)=_;refine ah (if_pos (by rw[tK];exact f)) ?_;rw[uU,i];have:lJ a.ws d 0=a.ws:=by exact QS _ _ i
    rw[this];rfl
   exact mf b (λc=>by exact p_ m8 [.n,.v _ _ (j)] (by kernel_rfl))|some k=>
   have j:qu lj 126 2 [.a d,.g] ⟨St a,b⟩=.ok (.a k) ⟨St {a with ws:=lJ a.ws d 0},b+1⟩:=by show(if(vI a.ws).length<=4096 then(match mL d (vI a.ws)with|some k=>R.ok k ⟨(St a).set 2 (.m (qU d (vI a.ws))),b+1⟩|D=>R.ok V.g ⟨St a,b⟩)else R.b)=_;refine ah (if_pos (by rw[tK];exact f)) ?_;rw[uU,i,Gy,Gk];have:lJ a.ws d 0=mH d a.ws:=if_pos rfl;refine this▸?_;rfl
   exact⟨b+1,λc=>by exact p_ m8 [.n,.v _ _ (j)] (by kernel_rfl)⟩
 ·have l:(e==0)=ak:=by simpa using h
  have j:rD (.b 2) (.a d) (.a e) ⟨St a,b⟩=.ok () ⟨St {a with ws:=lJ a.ws d e},b+1⟩:=by show(if(vI a.ws).length<=4096 then R.ok () ⟨(St a).set 2 (.m (pT d (.a e) (vI a.ws))),b+1⟩else R.b)=_;refine ah (if_pos (by rw[tK];exact f)) ?_;rw[Gw,Gk];have:lJ a.ws d e=mc d e a.ws:=if_neg h;exact this▸rfl
  exact⟨b+1,λc=>by exact p_ m8 [.b _ _ (congrArg (λm=>!m) (l)),.u _ _ (j)] (by kernel_rfl)⟩
theorem tL(d e)(f:0<=d)(g:d+4<=1024)(h:d%4=0)(i:0<=e)(j:e<4294967296)(k:a.ws.length<=4096):∃l,∀c,Rq (c+12) 487 [.b 1,.a d,.a e] a b .g {a with ws:=lJ a.ws (d/4) e} l:=by
 refine lp (wa a b (d/4) e k) λl m=>?_;have n:ae e 4294967295=e:=by rw[bitAnd_m32];exact iD i j
 refine⟨l,λc=>?_⟩;exact lq [.v _ _ (Gz (c+1) a b d f g h),.v _ _ ((congrArg (λo=>(kX lj (c+9)).l 494 [.b 1,.a (d/4),.a o] ⟨St a,b⟩) n).trans (m c))] (by kernel_rfl)
theorem GA(d e)(f:0<=d)(g:d+e<=1024)(h:0<=e):Rs (c+8) 466 [.b 1,.a d,.a e] a b .g:=by exact lq [.b _ _ (rh ((Y [e] [] ⟨[1],[],[.l .o .a],.N (.t .a .o)⟩) h:¬(e<0))),.b _ _ (rh ((Y [d] [] ⟨[1],[],[.l .o .a],.N (.t .a .o)⟩) f:¬(d<0))),.b _ _ (rh ((Y [d,e] [] ⟨[1],[],[.l (.p .a .b) (.k 1024)],.N (.t (.k 1024) (.p .a .b))⟩) g:¬(1024<d+e))),.n] (by kernel_rfl)
end
end
section
noncomputable def mi(a:List (Int×Int))(b c:Int):List (Int×Int):=lJ (lJ (lJ (lJ a b c) (b+1) c) (b+2) c) (b+3) c
theorem wc(a)(b c):(mi a b c).length<=a.length+4:=by exact(Y [] [(lJ a b c).length,a.length,(lJ (lJ a b c) (b+1) c).length,(lJ (lJ (lJ a b c) (b+1) c) (b+2) c).length,(lJ (lJ (lJ (lJ a b c) (b+1) c) (b+2) c) (b+3) c).length] ⟨[1,3,4,5],[],[.L .a (.p .b .u),.L .c (.p .a .u),.L .d (.p .c .u),.L .e (.p .d .u)],.L .e (.p .b (.k 4))⟩) (pG a b c) (pG (lJ a b c) (b+1) c) (pG (lJ (lJ a b c) (b+1) c) (b+2) c) (pG (lJ (lJ (lJ a b c) (b+1) c) (b+2) c) (b+3) c)
theorem sK(a)(b c d):lI (mi a b c) d=if b<=d/\d<=b+3 then c else lI a d:=by
 unfold mi;rw[ni,ni,ni,ni];by_cases e:b<=d/\d<=b+3
 ·refine ah ?_ (if_pos e).symm;have:d=b+3\/d=b+2\/d=b+1\/d=b:=by exact(Y [b,d] [] ⟨[1],[],[.A (.l .a .b) (.l .b (.p .a (.k 3)))],.O (.e .b (.p .a (.k 3))) (.O (.e .b (.p .a (.k 2))) (.O (.e .b (.p .a .u)) (.e .b .a)))⟩) e
  rcases this with f|f|f|f<;>simp[f]<;>lia
 ·refine ah ?_ (if_neg e).symm;refine ah (if_neg ((Y [b,d] [] ⟨[1],[],[.N (.A (.l .a .b) (.l .b (.p .a (.k 3))))],.N (.e .b (.p .a (.k 3)))⟩) e)) ?_;refine ah (if_neg ((Y [b,d] [] ⟨[1],[],[.N (.A (.l .a .b) (.l .b (.p .a (.k 3))))],.N (.e .b (.p .a (.k 2)))⟩) e)) ?_;refine ah (if_neg ((Y [b,d] [] ⟨[1],[],[.N (.A (.l .a .b) (.l .b (.p .a (.k 3))))],.N (.e .b (.p .a .u))⟩) e)) ?_;exact(if_neg ((Y [b,d] [] ⟨[1],[],[.N (.A (.l .a .b) (.l .b (.p .a (.k 3))))],.N (.e .b .a)⟩) e))
section
variable(d:Q)(f:Nat)
inductive QT(d:Q)(f:Nat)(i v:Int):Prop|mk(q1 q2 q3 q4:Q)(m1 m2 m3 m4:Nat)(h:q4={d with ws:=mi d.ws i v})(k1:∀n,Rq (n+9) 494 [.b 1,.a i,.a v] d f .g q1 m1)(k2:∀n,Rq (n+9) 494 [.b 1,.a (i+1),.a v] q1 m1 .g q2 m2)(k3:∀n,Rq (n+9) 494 [.b 1,.a (i+2),.a v] q2 m2 .g q3 m3)(k4:∀n,Rq (n+9) 494 [.b 1,.a (i+3),.a v] q3 m3 .g q4 m4)
theorem GB(a b)(c:d.ws.length+4<=4096):QT d f a b:=by have e:=pG d.ws a b;have g:=pG (lJ d.ws a b) (a+1) b;refine lp (wa d f a b ((Y [] [d.ws.length] ⟨[1],[],[.L (.p .a (.k 4)) (.k 4096)],.L .a (.k 4096)⟩) c)) λh i=>?_;obtain⟨j,k⟩:=wa {d with ws:=lJ d.ws a b} h (a+1) b ((Y [] [d.ws.length,(lJ d.ws a b).length] ⟨[1,2],[],[.L (.p .a (.k 4)) (.k 4096),.L .b (.p .a .u)],.L .b (.k 4096)⟩) c e);refine lp (wa {d with ws:=lJ (lJ d.ws a b) (a+1) b} j (a+2) b ((Y [] [d.ws.length,(lJ d.ws a b).length,(lJ (lJ d.ws a b) (a+1) b).length] ⟨[1,2,3],[],[.L (.p .a (.k 4)) (.k 4096),.L .b (.p .a .u),.L .c (.p .b .u)],.L .c (.k 4096)⟩) c e g)) λl m=>?_;obtain⟨n,o⟩:=wa {d with ws:=lJ (lJ (lJ d.ws a b) (a+1) b) (a+2) b} l (a+3) b ((Y [] [d.ws.length,(lJ d.ws a b).length,(lJ (lJ d.ws a b) (a+1) b).length,(lJ (lJ (lJ d.ws a b) (a+1) b) (a+2) b).length] ⟨[1,2,3,4],[],[.L (.p .a (.k 4)) (.k 4096),.L .b (.p .a .u),.L .c (.p .b .u),.L .d (.p .c .u)],.L .d (.k 4096)⟩) c e g (pG (lJ (lJ d.ws a b) (a+1) b) (a+2) b));exact⟨_,_,_,_,h,j,l,n,rfl,i,k,m,o⟩
noncomputable def zT:ls:=.n (.b 39) [.Lt] [.b 23]
noncomputable def zB:List lT:=fb 2 (nM 564)
structure ZE(i e:Int)(ρ:Ro):Prop where a:kZ 53 ρ=Z (.a (.b 1))b:kZ 39 ρ=Z (.a (.a i))c:kZ 23 ρ=Z (.a (.a e))
theorem xZ(a){d b}{f c}(e:ZE g h i)(j:g+4<=h)(k:g%4=0)(l:g/4=m)(n:∀a,Rq (a+9) 494 [.b 1,.a m,.a 0] d f .g b c):∃o,ZE (g+4) h o/\∀p,(kX lj (a+24)).ex o (.a zT zB) ⟨St b,c⟩=p->(kX lj (a+25)).ex i (.a zT zB) ⟨St d,f⟩=p:=by
 subst l;have q:=e.a;have r:=e.b;have s:=e.c;have t:ae g 3=0:=(bitAnd_m2 g).trans k;have u:(if h-g<4-ae g 3 then h-g else 4-ae g 3)=4:=by rw[t];exact if_neg (Int.not_lt.mpr (Int.le_sub_left_of_add_le j))
 have v:((if h-g<4-ae g 3 then h-g else 4-ae g 3)==4)=I:=m9 u;have w:(kX lj (a+24)).b i zT ⟨St d,f⟩=.ok I ⟨St d,f⟩:=(oq (la r (la s lD)) [] (by kernel_rfl):_=.ok (aE (g<h)) _).trans (congrArg (λx=>R.ok x _) (mG (bX (ge g (by decide)) j)));have y:∃o z,lH (kX lj (a+24)) zB i ⟨St d,f⟩=.ok (o,z) ⟨St b,c⟩/\(z=.a\/z=.e)/\GW.lu [(53,.a (.b 1)),(39,.a (.a (g+(if h-g<4-ae g 3 then h-g else 4-ae g 3)))),(23,.a (.a h))] o:=by exact ot (la s (la r (la q lD))) [.b _ _ (v),.v _ _ (n (a+12))] (by kernel_rfl)
 rw[u]at y;obtain⟨o,z,y,A,B⟩:=y;exact⟨o,⟨B _ _ rfl,B _ _ rfl,B _ _ rfl⟩,λp C=>Gg w y A C⟩
theorem QU(a)(b:0<=a)(c:a+16<=1024)(e:a%4=0)(g:d.ws.length+4<=4096):∃h,∀i,Rq (i+30) 564 [.b 1,.a a,.a 16] d f .g {d with ws:=mi d.ws (a/4) 0} h:=by obtain⟨j,k,a0,l,a3,a4,a5,m,n,o,p,q,r⟩:=GB d f (a/4) 0 g;refine mf m (λi=>n▸?_);have s:∀t:Int,(t+4)/4=t/4+1:=λt=>jH ⟨1,rfl⟩;have u:=s a;have v:(a+4+4)/4=a/4+2:=(s _).trans ((congrArg (·+1) u).trans (cZ _ _ _));have w:(a+4+4+4)/4=a/4+3:=(s _).trans ((congrArg (·+1) v).trans (cZ _ _ _));have x:∀t:Int,t%4=0->(t+4)%4=0:=λt y=>(Int.add_emod_right t 4).trans y;have z:a+4+4=a+8:=cZ _ _ _;have A:a+4+4+4=a+12:=(congrArg (·+4) z).trans (cZ _ _ _);have B:a+4+4+4+4=a+16:=(congrArg (·+4) A).trans (cZ _ _ _);have C:ZE a (a+16) [(53,.a (.b 1)),(36,.a (.a a)),(43,.a (.a 16)),(39,.a (.a a)),(23,.a (.a (a+16)))]:=⟨rfl,rfl,rfl⟩;obtain⟨a6,E,F⟩:=xZ (i+4) C (eQ (by decide) a) e rfl o;obtain⟨a7,G,H⟩:=xZ (i+3) E (z.symm▸eQ (by decide) a) (x _ e) u p;obtain⟨a8,J,L⟩:=xZ (i+2) G (A.symm▸eQ (by decide) a) (x _ (x _ e)) v q;obtain⟨N,O,P⟩:=xZ (i+1) J (gm B) (x _ (x _ (x _ e))) w r;have Q:=O.b;have S:=O.c;have T:(kX lj (i+24)).b N zT ⟨St l,m⟩=.ok ak ⟨St l,m⟩:=(oq (la Q (la S lD)) [] (by kernel_rfl):_=.ok (aE (a+4+4+4+4<a+16)) _).trans (congrArg (λU=>R.ok U _) (rh (B.symm▸Int.lt_irrefl _)));have V:(kX lj (i+29)).ex [(53,.a (.b 1)),(36,.a (.a a)),(43,.a (.a 16))] (.g (.p (.b 53) 119 [.b 36,.b 43])) ⟨St d,f⟩=.ok ([(53,.a (.b 1)),(36,.a (.a a)),(43,.a (.a 16))],.a) ⟨St d,f⟩:=qJ (l7 m8 [.v _ _ (GA (i+19) d f a 16 b c (by decide))] (by kernel_rfl):(kX lj (i+28)).ev _ _ _=.ok .g ⟨St d,f⟩);have W:(kX lj (i+29)).ex [(53,.a (.b 1)),(36,.a (.a a)),(43,.a (.a 16))] (.c [39,23] (.e [.b 36,.k .Add (.b 36) (.b 43)])) ⟨St d,f⟩=.ok ([(53,.a (.b 1)),(36,.a (.a a)),(43,.a (.a 16)),(39,.a (.a a)),(23,.a (.a (a+16)))],.a) ⟨St d,f⟩:=rfl;have X:(kX lj (i+29)).ex [(53,.a (.b 1)),(36,.a (.a a)),(43,.a (.a 16)),(39,.a (.a a)),(23,.a (.a (a+16)))] (.a zT zB) ⟨St d,f⟩=.ok (N,.a) ⟨St l,m⟩:=F _ (H _ (L _ (P _ (Gh T))));exact ah QA (Gi (oV V (oV W (M.lO X))))
end
end
section
noncomputable def ou(a:Nat):List Nat:=[a,a,a,a,a,a,a,a,a,a,a,a,a,a,a,a]
noncomputable def wd(a:Nat):Int:=a+256*(a+256*(a+256*a))
theorem Bg(a:-1000000000000000<b/\b<1000000000000000):oX b=I:=decide_eq_true (by cases b with|ofNat c=>exact gk (Int.ofNat_lt.mp a.2:c<1000000000000000) (by decide)|negSucc c=>exact gk (Int.ofNat_lt.mp (Int.neg_lt_neg_iff.mp a.1):c+1<1000000000000000) (by decide))
theorem oE(a:-1000000000000000<b/\b<1000000000000000)(c:-1000000000000000<d/\d<1000000000000000):lU .Mult (.a b) (.a d)=Z (.a (b*d)):=by rw[QM,Bg a,Bg c];rfl
theorem sL(a)(b:-1000000000000000<c/\c<1000000000000000)(d:(0<=a&&aE (a<=1000))=I):lU .LShift (.a c) (.a a)=Z (.a (c*2^a.toNat)):=by rw[QO,Bg b,jI,d];rfl
noncomputable def fB:List lT:=[.f 15 (.k .BitOr (.k .LShift (.b 15) (.f (.a 8))) (.b 78))]
noncomputable def QV:lT:=.h (dp 78) 0 [.t (.a (.b 77) (Z (.b 99)) (Z (.k .Add (.b 99) (.b 21))))] fB
noncomputable def fS(a b:Int)(c:Ro):Ro:=k9 15 (.a (.a (ai (b*2^8) a))) (k9 78 (.a (.a a)) c)
theorem x6(a:(15==b)=ak)(c:(78==b)=ak):kZ b (fS d e f)=kZ b f:=(GW.nE _ _ a).trans (GW.nE _ _ c)
theorem Bh{a}{b c}{d:R (Ro×Fl)}(e:lH a f (k9 g (.a h) i) b=.ok (j,.a) c)(k:mT a (.inl g) f l j c=d):mT a (.inl g) f (h::l) i b=d:=(M.lO e).trans k
theorem x7(a)(b:kZ 15 c=Z (.a (.a d)))(e:-1000000000000000<d/\d<1000000000000000)(f:mT (kX lj (a+9)) (.inl 78) fB g (fS h d c) i=j):mT (kX lj (a+9)) (.inl 78) fB (.a h::g) c i=j:=Bh (uT (g:=a) (h:=9) (GW.lu.k9 (la b lD) 78 (.a (.a h))) [.o _ _ (sL 8 e rfl)] (by kernel_rfl)) f
theorem QW(a)(b:c=5\/c=1)(d:n7 (Z (.a e)) (Z (.a (e+4))) (ou c)=Z [c,c,c,c])(f:kZ 77 g=Z (.a (.f (ou c))))(h:kZ 99 g=Z (.a (.a e)))(i:kZ 21 g=Z (.a (.a 4)))(j:kZ 15 g=Z (.a (.a 0))):∃k,lV lj (kX lj (a+9)) g QV l=.ok (k,.a) l/\(∀m,(15==m)=ak->(78==m)=ak->kZ m k=kZ m g)/\kZ 15 k=Z (.a (.a (wd c))):=by
 have n:(kX lj (a+8)).ev g (.a (.b 77) (Z (.b 99)) (Z (.k .Add (.b 99) (.b 21)))) l=M.c ((n7 (Z (.a e)) (Z (.a (e+4))) (ou c)).map .f) l:=by
  refine(M.lO (a:=.f (ou c)) (S:=l) (S':=l) ?_).trans ((M.lO (a:=Z (V.a e)) (S:=l) (S':=l) ?_).trans (M.lO (a:=Z (V.a (e+4))) (S:=l) (S':=l) ?_));·exact l7 (g:=a) (h:=7) (la f lD) [] (by kernel_rfl)
  ·exact M.lO (l7 (g:=a) (h:=7) (la h lD) [] (by kernel_rfl):(kX lj (a+7)).ev g (.b 99) l=.ok (.a e) l)
  ·exact M.lO (l7 (g:=a) (h:=7) (la h (la i lD)) [] (by kernel_rfl):(kX lj (a+7)).ev g (.k .Add (.b 99) (.b 21)) l=.ok (.a (e+4)) l)
 have o:lS (kX lj (a+9)) g ak 0 [.t (.a (.b 77) (Z (.b 99)) (Z (.k .Add (.b 99) (.b 21))))] l=.ok [.a c,.a c,.a c,.a c] l:=by refine M.lO (a:=V.f [c,c,c,c]) (S:=l) (S':=l) ((M.lO (a:=V.f [c,c,c,c]) (S:=l) (S':=l) (n.trans (congrArg (λp=>M.c (ii V.f p) l) d))).trans rfl)
 have q:∀{g r},kZ 15 (fS c r g)=Z (.a (.a (ai (r*2^8) c))):=λ{_ _}=>GW.nW _ _ _;refine⟨_,qa lj o (x7 a j (by decide) (x7 a q ?_ (x7 a q ?_ (x7 a q ?_ rfl)))),λm s t=>(x6 s t).trans ((x6 s t).trans ((x6 s t).trans (x6 s t))),q.trans ?_⟩;all_goals rcases b with rfl|rfl<;>first|rfl|decide
noncomputable def sT:ls:=.n (.b 99) [.Lt] [.b 23]
noncomputable def sB:List lT:=fb 2 (nM 557)
structure Bi(c:Nat)(i j:Int)(ρ:Ro):Prop where a1:kZ 53 ρ=Z (.a (.b 1))a2:kZ 39 ρ=Z (.a (.a i))a:kZ 99 ρ=Z (.a (.a j))b:kZ 23 ρ=Z (.a (.a 16))d:kZ 77 ρ=Z (.a (.f (ou c)))
theorem x8(a)(b:c=5\/c=1)(d:Bi c e f g)(h:n7 (Z (.a f)) (Z (.a (f+4))) (ou c)=Z [c,c,c,c])(i:f<16/\¬16-f<4)(j:e%4=0)(k:e/4=l)(m:∀a,Rq (a+9) 494 [.b 1,.a l,.a (wd c)] n o .g p q):∃r,Bi c (e+4) (f+4) r/\∀s,(kX lj (a+24)).ex r (.a sT sB) ⟨St p,q⟩=s->(kX lj (a+25)).ex g (.a sT sB) ⟨St n,o⟩=s:=by
 subst k;have t:=d.a1;have u:=d.a2;have v:=d.a;have w:=d.b;have x:=d.d;have y:ae e 3=0:=(bitAnd_m2 e).trans j;have z:(if 16-f<4-ae e 3 then 16-f else 4-ae e 3)=4:=by rw[y];exact if_neg i.2
 have A:(kX lj (a+24)).b g sT ⟨St n,o⟩=.ok I ⟨St n,o⟩:=(oq (la v (la w lD)) [] (by kernel_rfl):_=.ok (aE (f<16)) _).trans (congrArg (λB=>R.ok B _) (mG i.1));have C:∀E F,(21==E)=ak->(15==E)=ak->kZ E g=Z F->kZ E (k9 15 (.a (.a 0)) (k9 21 (.a (.a (if 16-f<4-ae e 3 then 16-f else 4-ae e 3))) g))=Z F:=λE F G B H=>(GW.nE _ _ B).trans ((GW.nE _ _ G).trans H);obtain⟨J,L,M,N⟩:=QW (a+14) (l:=⟨St n,o⟩) b h (C _ _ rfl rfl x) (C _ _ rfl rfl v) (((GW.nE _ _ rfl).trans (GW.nW _ _ _)).trans (congrArg (λd=>Z (LV.a (.a d))) z)) (GW.nW _ _ _);have O:∀E F,(21==E)=ak->(15==E)=ak->(78==E)=ak->kZ E g=Z F->kZ E J=Z F:=λE F G B P H=>(M E B P).trans (C E F G B H);have Q:kZ 21 J=Z (.a (.a 4)):=(M 21 rfl rfl).trans (((GW.nE _ _ rfl).trans (GW.nW _ _ _)).trans (congrArg (λd=>Z (LV.a (.a d))) z));have S:GW.lu [(15,.a (.a (wd c))),(21,.a (.a 4)),(53,.a (.b 1)),(39,.a (.a e)),(99,.a (.a f)),(23,.a (.a 16)),(77,.a (.f (ou c)))] J:=la N (la Q (la (O _ _ rfl rfl rfl t) (la (O _ _ rfl rfl rfl u) (la (O _ _ rfl rfl rfl v) (la (O _ _ rfl rfl rfl w) (la (O _ _ rfl rfl rfl x) lD))))));have T:∃r U,lH (kX lj (a+24)) sB g ⟨St n,o⟩=.ok (r,U) ⟨St p,q⟩/\(U=.a\/U=.e)/\GW.lu [(53,.a (.b 1)),(39,.a (.a (e+4))),(99,.a (.a (f+4))),(23,.a (.a 16)),(77,.a (.f (ou c)))] r:=by exact ot (la t (la u (la v (la w (la x lD))))) [.s _ _ _ _ _ L S,.b _ _ (rfl:((4:Int)==4)=I),.v _ _ (m (a+12))] (by kernel_rfl)
 obtain⟨r,U,T,V,S⟩:=T;exact⟨r,⟨S _ _ rfl,S _ _ rfl,S _ _ rfl,S _ _ rfl,S _ _ rfl⟩,λs W=>Gg A T V W⟩
section
variable(a:Q)(b:Nat)
theorem QX(c)(d:c=5\/c=1)(e)(f:0<=e)(g:e+16<=1024)(h:e%4=0)(i:a.ws.length+4<=4096):∃j,∀k,Rq (k+30) 557 [.b 1,.a e,.f (ou c)] a b .g {a with ws:=mi a.ws (e/4) (wd c)} j:=by obtain⟨l,m,n,o,p,q,r,s,t,u,v,w,x⟩:=GB a b (e/4) (wd c) i;refine mf s (λk=>t▸?_);have y:∀z:Int,(z+4)/4=z/4+1:=λz=>jH ⟨1,rfl⟩;have A:=y e;have B:(e+4+4)/4=e/4+2:=(y _).trans ((congrArg (·+1) A).trans (cZ _ _ _));have C:(e+4+4+4)/4=e/4+3:=(y _).trans ((congrArg (·+1) B).trans (cZ _ _ _));have E:∀z:Int,z%4=0->(z+4)%4=0:=λz F=>(Int.add_emod_right z 4).trans F;have G:Bi c e 0 [(53,.a (.b 1)),(36,.a (.a e)),(77,.a (.f (ou c))),(39,.a (.a e)),(99,.a (.a 0)),(23,.a (.a 16))]:=⟨rfl,rfl,rfl,rfl,rfl⟩;obtain⟨H,J,L⟩:=x8 (k+4) d G rfl (by decide) h rfl u;obtain⟨a0,N,O⟩:=x8 (k+3) d J rfl (by decide) (E _ h) A v;obtain⟨a3,P,Q⟩:=x8 (k+2) d N rfl (by decide) (E _ (E _ h)) B w;obtain⟨R,S,T⟩:=x8 (k+1) d P rfl (by decide) (E _ (E _ (E _ h))) C x;have U:(kX lj (k+24)).b R sT ⟨St o,s⟩=.ok ak ⟨St o,s⟩:=oq (la S.a (la S.b lD)) [] (by kernel_rfl);have V:(kX lj (k+29)).ex [(53,.a (.b 1)),(36,.a (.a e)),(77,.a (.f (ou c)))] (.g (.p (.b 53) 119 [.b 36,.l6 .b [.b 77]])) ⟨St a,b⟩=.ok ([(53,.a (.b 1)),(36,.a (.a e)),(77,.a (.f (ou c)))],.a) ⟨St a,b⟩:=qJ (l7 m8 [.v _ _ (rfl:l6 .b [.f (ou c)] ⟨St a,b⟩=.ok (.a 16) ⟨St a,b⟩),.v _ _ (GA (k+19) a b e 16 f g (by decide))] (by kernel_rfl):(kX lj (k+28)).ev _ _ _=.ok .g ⟨St a,b⟩);have W:(kX lj (k+29)).ex [(53,.a (.b 1)),(36,.a (.a e)),(77,.a (.f (ou c)))] (.c [39,99,23] (.e [.b 36,.f (.a 0),.l6 .b [.b 77]])) ⟨St a,b⟩=.ok ([(53,.a (.b 1)),(36,.a (.a e)),(77,.a (.f (ou c))),(39,.a (.a e)),(99,.a (.a 0)),(23,.a (.a 16))],.a) ⟨St a,b⟩:=rfl;have X:(kX lj (k+29)).ex [(53,.a (.b 1)),(36,.a (.a e)),(77,.a (.f (ou c))),(39,.a (.a e)),(99,.a (.a 0)),(23,.a (.a 16))] (.a sT sB) ⟨St a,b⟩=.ok (R,.a) ⟨St o,s⟩:=L _ (O _ (Q _ (T _ (Gh U))));exact ah Qz (Gi (oV V (oV W (M.lO X))))
end
section
variable{b:Nat}{a:MS}
theorem nG(c):Rt (b+6) 198 [.a c] a (.h (!(ae c 10==0))) a:=by exact lq [] (by kernel_rfl)
theorem x9(c):Rt (b+7) 205 [.a c] a (.h (!(ae c 1==0)&&!(ae c 6==4))) a:=by cases d:ae c 1==0 with|false=>exact lq [.b _ _ (congrArg dF d)] (by kernel_rfl)|true=>exact lq [.b _ _ (congrArg dF d)] (by kernel_rfl)
theorem QY(c):Rt (b+7) 852 [.a c] a (.h (aE (c<1024)&&(!(ae c 10==0)&&!(ae c 6==4)))) a:=by cases d:aE (c<1024)with|false=>exact lq [.b _ _ d] (by kernel_rfl)|true=>cases e:ae c 10==0 with|false=>exact lq [.b _ _ d,.b _ _ (congrArg dF e)] (by kernel_rfl)|true=>exact lq [.b _ _ d,.b _ _ (congrArg dF e)] (by kernel_rfl)
end
end
theorem pH(a b:Nat):ae (a:Int) (b:Int)=((a&&&b:Nat):Int):=by refine ah (bitAnd_pp (Y [] [a] ⟨[1],[],[],.l .o (.n .a)⟩) (Y [] [b] ⟨[1],[],[],.l .o (.n .a)⟩)) ?_;rfl
theorem QZ(a b c)(d:c<2^a):b&&&c=(b%2^a)&&&c:=by rw[←eH,Nat.and_assoc,Nat.and_comm (2^a-1) c,eH,Nat.mod_eq_of_lt d]
theorem GC(a)(b:0<=c)(d:0<=e)(f:e<((2^a:Nat):Int)):ae c e=ae (c%((2^a:Nat):Int)) e:=by refine lp (dV b) λg h=>?_;refine h▸?_;refine lp (dV d) λi h=>?_;subst h;have j:(g:Int)%((2^a:Nat):Int)=((g%2^a:Nat):Int):=rfl;refine j▸?_;rw[pH,pH,←QZ a g i ((Y [] [i,2^a] ⟨[1],[],[.t (.n .a) (.n .b)],.T .a .b⟩) f)]
theorem Bj(a)(b:0<=c):ae c (((2^a:Nat):Int)-1)=c%((2^a:Nat):Int):=by
 refine lp (dV b) λd e=>?_;subst e;have f:((2^a:Nat):Int)-1=((2^a-1:Nat):Int):=by exact(Y [] [2^a] ⟨[1],[.s .a .u],[.T .o .a],.e (.s (.n .a) .u) (.n .b)⟩) (Nat.two_pow_pos a:0<2^a)
 refine ah (congrArg _ f) ?_;rw[pH,eH];rfl
theorem Q0:ae 0 a=0:=by rw[bitAnd_comm,bitAnd_zero]
theorem uV(a)(b:0<=c)(d:0<=e)(f:e<((2^a:Nat):Int)):ai (c*((2^a:Nat):Int)) e=c*((2^a:Nat):Int)+e:=by rw[jC,GC a (cC b (bj (by have:=Nat.two_pow_pos a;exact(Y [] [2^a] ⟨[1],[],[.T .o .a],.t .o (.n .a)⟩) this:(0:Int)<((2^a:Nat):Int)))) d f,Int.mul_emod_left,Q0,Int.sub_zero]
theorem sN(a:0<=b)(c:0<=d/\d<1024)(e:0<=f/\f<1024):ae (b*1024+d) f=ae d f:=by refine ah ((GC 10 (c:=b*1024+d) (e:=f) ((Y [b,d] [] ⟨[1,2],[],[.l .o .a,.A (.l .o .b) (.t .b (.k 1024))],.l .o (.p (.w .a 1024) .b)⟩) a c) e.1 ((Y [f] [] ⟨[1],[],[.A (.l .o .a) (.t .a (.k 1024))],.t .a (.k 1024)⟩) e))) ?_;congr 1;exact(Y [d,b] [] ⟨[1,2,4],[.m (.p (.w .b 1024) .a) 1024],[.A (.l .o .a) (.t .a (.k 1024))],.e .d .a⟩) c
theorem GD(a:0<=b)(c:0<=d/\d<1024)(e:0<=f/\f<1024):ai (b*1024+d) f=b*1024+ai d f:=by rw[jC,jC,sN a c e];exact Y [b,d,f,ae d f] [] ⟨[],[],[],.e (.s (.p (.p (.w .a 1024) .b) .c) .d) (.p (.w .a 1024) (.s (.p .b .c) .d))⟩
theorem we(a:0<=b):ae b 1023=b%1024:=Bj 10 a
theorem Q1(a:0<=b)(c:0<=d/\d<4):ai (b*4) d=b*4+d:=uV 2 a c.1 c.2
theorem Bk(a:0<=b)(c:0<=d/\d<16):ai (b*16) d=b*16+d:=uV 4 a c.1 c.2
theorem GF(a:0<=b)(c:0<=d/\d<64):ai (b*64) d=b*64+d:=uV 6 a c.1 c.2
theorem Q2(a:0<=b)(c:0<=d/\d<1024):ai (b*1024) d=b*1024+d:=uV 10 a c.1 c.2
theorem GG(a):ae a (br 1)=a-a%2:=by rw[iU,gK]
theorem Q3(a):ae a (br 15)=a-a%16:=by rw[iU,jD]
theorem GH(a:0<=b):ae b (br 1023)=b-b%1024:=by rw[iU,we a]
theorem sO(a):ai a 1=a+1-a%2:=by rw[jC,gK]
noncomputable def l9(a:Int):Bool:=aE (a<1024)&&(!(ae a 10==0)&&!(ae a 6==4))
theorem Q4:∀a:Nat,a<1024->(((a+1-a%2)&&&6)=(a&&&6)/\((a+1-a%2)&&&10)=(a&&&10))/\((a-a%2)&&&6)=(a&&&6)/\((a-a%2)&&&10)=(a&&&10):=by decide+kernel
theorem Q5:∀a:Nat,a<1024->((a&&&18)=18↔¬(a&&&16)=0/\¬(a&&&2)=0):=by decide+kernel
theorem Q6:∀a:Nat,a<1024->∀b,b∈[0,2,4,256,1,10]->(a-(a&&&b))=(a&&&(1023-b))/\(a&&&b)<=a:=by decide+kernel
theorem Q7:∀a:Nat,a<1024->∀b,b∈[4,128,256,16,0,2]->(a|||b)<1024:=by decide+kernel
theorem toN{a:Int}(b:0<=a/\a<1024):∃c:Nat,c<1024/\a=c:=⟨a.toNat,(Y [a] [] ⟨[1,2],[.t .a],[.A (.l .o .a) (.t .a (.k 1024))],.T .a (.k 1024)⟩) b,(Y [a] [] ⟨[1],[.t .a],[.A (.l .o .a) (.t .a (.k 1024))],.e .a (.n .a)⟩) b⟩
theorem x_{a:Int}(b:0<=a/\a<1024):ae (a+1-a%2) 6=ae a 6/\ae (a+1-a%2) 10=ae a 10/\ae (a-a%2) 6=ae a 6/\ae (a-a%2) 10=ae a 10:=by
 refine ll (toN b) λc d e=>?_;subst e;have f:(c:Int)+1-c%2=((c+1-c%2:Nat):Int):=by exact Y [] [c] ⟨[2,3,6,1,4,5],[.m (.n .a) 2,.v .a 2,.s (.p .a .u) .c],[],.e (.s (.p (.n .a) .u) .b) (.n .d)⟩
 have g:(c:Int)-c%2=((c-c%2:Nat):Int):=by exact Y [] [c] ⟨[2,3,6,1,4,5],[.m (.n .a) 2,.v .a 2,.s .a .c],[],.e (.s (.n .a) .b) (.n .d)⟩
 have h:=Q4 c d;refine oK ?_ ?_ ?_ ?_;·rw[f];exact(pH _ 6).trans ((congrArg _ h.1.1).trans (pH c 6).symm)
 ·rw[f];exact(pH _ 10).trans ((congrArg _ h.1.2).trans (pH c 10).symm)
 ·rw[g];exact(pH _ 6).trans ((congrArg _ h.2.1).trans (pH c 6).symm)
 ·rw[g];exact(pH _ 10).trans ((congrArg _ h.2.2).trans (pH c 10).symm)
theorem GI{a:Int}(b:0<=a/\a<1024):(ae a 18==18)=(!(ae a 16==0)&&!(ae a 2==0)):=by
 refine ll (toN b) λc d e=>?_;subst e;have f:=Q5 c d;rw[i9];simp only[beq_iff_eq,aJ,dZ,beq_eq_false_iff_ne,ne_eq];constructor;·intro g;have:=f.mp ((Y [] [c&&&18] ⟨[1],[],[.e (.n .a) (.k 18)],.E .a (.k 18)⟩) g);exact(Y [] [c&&&16,c&&&2] ⟨[1,2],[],[.A (.N (.E .a .o)) (.N (.E .b .o))],.A (.N (.e (.n .a) .o)) (.N (.e (.n .b) .o))⟩) this
 ·intro g;have:=f.mpr ((Y [] [c&&&16,c&&&2] ⟨[1,2],[],[.A (.N (.e (.n .a) .o)) (.N (.e (.n .b) .o))],.A (.N (.E .a .o)) (.N (.E .b .o))⟩) g);exact(Y [] [c&&&18] ⟨[1],[],[.E .a (.k 18)],.e (.n .a) (.k 18)⟩) this
theorem Q8{a b:Int}(c:0<=a/\a<1024)(d:b∈[0,2,4,256,1,(10:Int)]):a-ae a b=ae a (1023-b)/\0<=ae a (1023-b)/\ae a (1023-b)<1024:=by
 refine ll (toN c) λe f g=>?_;subst g;obtain⟨h,i,rfl⟩:∃h:Nat,h∈[0,2,4,256,1,10]/\b=h:=(List.mem_map.mp (d:b∈([0,2,4,256,1,10]:List Nat).map bJ)).imp λ_ c=>⟨c.1,c.2.symm⟩;have j:(1023:Int)-h=((1023-h:Nat):Int):=by exact(Y [] [h] ⟨[1],[.s (.k 1023) .a],[.L .a (.k 1023)],.e (.s (.k 1023) (.n .a)) (.n .b)⟩) ((by decide:∀h∈[0,2,4,256,1,10],h<=1023) h i:h<=1023)
 refine j▸?_;rw[pH,pH];have:(e&&&(1023-h))<=e:=Nat.and_le_left;exact(Y [] [e,e&&&h,e&&&1023-h] ⟨[4,3,2,1],[.s .a .b],[.T .a (.k 1024),.A (.E .d .c) (.L .b .a),.L .c .a],.A (.e (.s (.n .a) (.n .b)) (.n .c)) (.A (.l .o (.n .c)) (.t (.n .c) (.k 1024)))⟩) f (Q6 e f h i) this
theorem Q9{a b:Int}(c:0<=a/\a<1024)(d:b∈[4,128,256,16,0,(2:Int)]):0<=ai a b/\ai a b<1024:=by refine ll (toN c) λe f g=>?_;subst g;obtain⟨h,i,rfl⟩:∃h:Nat,h∈[4,128,256,16,0,2]/\b=h:=(List.mem_map.mp (d:b∈([4,128,256,16,0,2]:List Nat).map bJ)).imp λ_ c=>⟨c.1,c.2.symm⟩;rw[jC];have:=nat_or_add_and e h;exact(Y [] [e|||h,e&&&h,e,h] ⟨[1,2],[],[.T .a (.k 1024),.E (.p .a .b) (.p .c .d)],.A (.l .o (.s (.p (.n .c) (.n .d)) (.n .b))) (.t (.s (.p (.n .c) (.n .d)) (.n .b)) (.k 1024))⟩) (Q7 e f h i) this
section
noncomputable def sP(a:Int):Prop:=-1000000000000000<a/\a<1000000000000000
theorem Q_(a:sP b):lU .LShift (.a b) (.a 2)=Z (.a (b*4)):=sL 2 a rfl
theorem GJ(a:sP b):lU .LShift (.a b) (.a 4)=Z (.a (b*16)):=sL 4 a rfl
theorem Ra(a:sP b):lU .LShift (.a b) (.a 10)=Z (.a (b*1024)):=sL 10 a rfl
theorem uW(a:sP b):lU .Mult (.a 4) (.a b)=Z (.a (4*b)):=oE (by decide) a
theorem wf(a:sP b):lU .Mult (.a 16) (.a b)=Z (.a (16*b)):=oE (by decide) a
theorem GK(a:sP b):lU .Mult (.a 64) (.a b)=Z (.a (64*b)):=oE (by decide) a
theorem Rb(a:sP b):lU .Mult (.a b) (.a 16)=Z (.a (b*16)):=oE a (by decide)
theorem ya(a:sP b):lU .Mult (.a b) (.a 1024)=Z (.a (b*1024)):=oE a (by decide)
theorem sm(a:0<=b)(c:b<10000000):-1000000000000000<b/\b<1000000000000000:=⟨bX (by decide) a,bH c (by decide)⟩
theorem mW{a}(b:0<=a/\a<4):lU .Mult (.a 4) (.a a)=Z (.a (4*a)):=uW (sm b.1 (bH b.2 (by decide)))
theorem rB{a:Int}(b:0<=a/\a<4):0<=512+4*a/\512+4*a+4<=1024/\(512+4*a)%4=0/\(512+4*a)/4=128+a:=⟨(Y [a] [] ⟨[1],[],[.A (.l .o .a) (.t .a (.k 4))],.l .o (.p (.k 512) (.m 4 .a))⟩) b,(Y [a] [] ⟨[1],[],[.A (.l .o .a) (.t .a (.k 4))],.l (.p (.p (.k 512) (.m 4 .a)) (.k 4)) (.k 1024)⟩) b,Y [a] [] ⟨[3,1],[.m (.p (.k 512) (.m 4 .a)) 4],[],.e .c .o⟩,za⟩
theorem yb{a b:Int}(c:0<=a/\a<=1000)(d:a%16=0)(e:0<=b/\b<4):0<=a+4*b/\a+4*b+4<=1024/\(a+4*b)%4=0/\(a+4*b)/4=a/4+b:=⟨(Y [a,b] [] ⟨[2,1],[],[.A (.l .o .a) (.l .a (.k 1000)),.A (.l .o .b) (.t .b (.k 4))],.l .o (.p .a (.m 4 .b))⟩) c e,(Y [a,b] [] ⟨[2,1,3,4],[.m .a 16],[.A (.l .o .a) (.l .a (.k 1000)),.e .d .o,.A (.l .o .b) (.t .b (.k 4))],.l (.p (.p .a (.m 4 .b)) (.k 4)) (.k 1024)⟩) c d e,(Y [a,b] [] ⟨[1,4,6,3],[.m .a 16,.m (.p .a (.m 4 .b)) 4],[.e .d .o],.e .f .o⟩) d,(Y [a,b] [] ⟨[3,2,6,1,5,4],[.m .a 16,.d (.p .a (.m 4 .b)) 4,.d .a 4],[.e .d .o],.e .e (.p .f .b)⟩) d⟩
theorem rj(a:Nat){b c}(d:0<=b/\b<4)(e:f.ws.length<=4096)(g:lI f.ws (128+b)=c)(h):Rs (h+12) 480 [.b 1,.a (512+4*b)] f a (.a c):=mq (ri h f a _ (rB d).1 (rB d).2.1 (rB d).2.2.1 e) ((congrArg (lI f.ws) (rB d).2.2.2).trans g)
theorem rk(a:Nat){b s c}(d:0<=b/\b<=1000)(e:b%16=0)(f:0<=s/\s<4)(g:q.ws.length<=4096)(h:lI q.ws (b/4+s)=c)(i):Rs (i+12) 480 [.b 1,.a (b+4*s)] q a (.a c):=mq (ri i q a _ (yb d e f).1 (yb d e f).2.1 (yb d e f).2.2.1 g) ((congrArg (lI q.ws) (yb d e f).2.2.2).trans h)
theorem fA{a:Int}(b:0<=a)(c:a<256):0<=a/16/4/\a/16/4<4:=⟨cV (cV b (by decide)) (by decide),(Y [a] [] ⟨[1,2,3],[.d .a 16,.d .b 4],[.t .a (.k 256)],.t .c (.k 4)⟩) c⟩
theorem sA(a:Int):0<=a%4/\a%4<4:=⟨bz _ (by decide),bq _ (by decide)⟩
theorem aA(a:Int):a/16/4=a/64:=wN
theorem pg(a:Nat){b c}(d:0<=b)(e:b<256)(f:g.ws.length<=4096)(h:lI g.ws (128+b/64)=c)(i):Rs (i+12) 480 [.b 1,.a (512+4*(b/16/4))] g a (.a c):=rj a (fA d e) f (aA b▸h) i
section
variable(b:Nat)(a:Q)(c:Nat)
theorem yc(d)(e:0<=d)(f:d<256):Rs (b+8) 129 [.b 4,.a d] a c (.e [.a (d/16/4),.a (d/16%4),.a (d%16)]):=by refine ah (b:=.ok (.e [.a (d/16/4),.a (ae (d/16) 3),.a (ae d 15)]) _) ?_ (by rw[bitAnd_m2,jD]);exact lq [.b _ _ (mG e),.b _ _ (congrArg dF (mG f))] (by kernel_rfl)
theorem Rf(d)(e:256<=d):Rs (b+8) 129 [.b 4,.a d] a c .g:=by exact lq [.b _ _ (mG (by exact(Y [d] [] ⟨[1],[],[.l (.k 256) .a],.l .o .a⟩) e:0<=d)),.b _ _ (congrArg dF (rh (by exact(Y [d] [] ⟨[1],[],[.l (.k 256) .a],.N (.t .a (.k 256))⟩) e:¬(d<256))))] (by kernel_rfl)
theorem ye(d e)(f:0<=d/\d<4)(g:0<=e/\e<4):Rs (b+10) 137 [.b 4,.a d,.a e] a c (.a ((d*4+e)*16)):=by
 have h:0<=d*4+e:=by exact(Y [d,e] [] ⟨[1,2],[],[.A (.l .o .a) (.t .a (.k 4)),.A (.l .o .b) (.t .b (.k 4))],.l .o (.p (.w .a 4) .b)⟩) f g
 have i:lU .LShift (.a (ai (d*4) e)) (.a 4)=Z (.a ((d*4+e)*16)):=by refine(Q1 f.1 g).symm▸?_;exact GJ (sm h ((Y [d,e] [] ⟨[1,2],[],[.A (.l .o .a) (.t .a (.k 4)),.A (.l .o .b) (.t .b (.k 4))],.t (.p (.w .a 4) .b) (.k 10000000)⟩) f g))
 refine ah (b:=.ok (.a (ai ((d*4+e)*16) 0)) _) ?_ (congrArg (λj=>R.ok (V.a j) _) (by refine ah (Bk h (by decide)) ?_;rw[cz]));exact lq [.o _ _ (Q_ (b:=d) (sm f.1 (bH f.2 (by decide)))),.o _ _ i] (by kernel_rfl)
theorem yf(d e)(f:0<=d/\d<1000000)(g:0<=e/\e<1024):Rs (b+10) 172 [.b 4,.a d,.a e] a c (.a (d/16*1024+e)):=by have h:0<=d/16:=cV f.1 (by decide);refine ah (b:=.ok (.a (ai (d/16*1024) e)) _) ?_ (congrArg (λi=>R.ok (V.a i) _) (Q2 h g));exact lq [.o _ _ (Ra (b:=d/16) (sm h (bt (iW 16 f.1) (bH f.2 (by decide)))))] (by kernel_rfl)
theorem oF(d)(e:0<=d/\d<1000000000):Rs (b+10) 179 [.b 4,.a d] a c (.a (d/1024*16)):=by exact lq [.o _ _ (GJ (b:=d/1024) (sm (cV e.1 (by decide)) ((Y [d] [] ⟨[2,1],[.d .a 1024],[.A (.l .o .a) (.t .a (.k 1000000000))],.t .b (.k 10000000)⟩) e)))] (by kernel_rfl)
theorem tM(d):Rs (b+8) 144 [.b 4,.a d] a c (.a (d-d%16)):=by refine ah (b:=.ok (.a (ae d (br 15))) _) ?_ (congrArg (λe=>R.ok (V.a e) _) (Q3 d));exact lq [] (by kernel_rfl)
theorem ph(d):Rs (b+8) 158 [.b 4,.a d] a c (.h (d%16==0)):=by refine ah (b:=.ok (.h (ae d 15==0)) _) ?_ (congrArg (λe=>R.ok (V.h (e==0)) _) (jD d));exact lq [] (by kernel_rfl)
theorem tN(d):(vL d).length=d.length:=ay ..
theorem GL{b}(a:b<=4096):tg b d=.ok (.a b) d:=by unfold tg;rw[if_pos (by unfold mE;exact lk a rfl)];rfl
theorem Bl(b:a.d.length<=4096):l6 .b [.b 7] ⟨St a,c⟩=.ok (.a a.d.length) ⟨St a,c⟩:=by show tg (vL a.d).length _=_;rw[tN];exact GL b
theorem Bm(b:a.a.length<=4096):l6 .b [.b 18] ⟨St a,c⟩=.ok (.a a.a.length) ⟨St a,c⟩:=by show tg (vL a.a).length _=_;rw[tN];exact GL b
theorem Rg(d)(e:512<=d)(f:d<512+16*a.lE)(g:d%16=0):Rs (b+10) 747 [.b 6,.a d] a c (.h I):=by have h:0<=(d-512)/16:=(Y [d] [] ⟨[4,1,2,3],[.m .a 16,.d (.s .a (.k 512)) 16],[.l (.k 512) .a,.e .c .o],.l .o .d⟩) e g;have i:(d-512)/16<a.lE:=(Y [d,a.lE] [] ⟨[4,3,5,1,2],[.m .a 16,.d (.s .a (.k 512)) 16],[.t .a (.p (.k 512) (.m 16 .b)),.e .d .o],.t .e .b⟩) f g;exact(lq [.b _ _ (m9 ((Y [d] [] ⟨[1,3,5,2],[.m .a 16,.m (.s .a (.k 512)) 16],[.e .c .o],.e .e .o⟩) g:(d-512)%16=0)),.b _ _ (mG h)] (by kernel_rfl)).trans (congrArg (λj=>R.ok (V.h j) ⟨St a,c⟩) (mG i))
theorem Rh(d)(e:512<=d)(f:d<512+16*a.lE)(g:d%16=0)(h:a.f.length<=4096):Rs (b+16) 754 [.b 6,.a d] a c (.a (lI a.f d)):=by
 have i:qu lj 96 8 [.a d,.a 0] ⟨St a,c⟩=.ok (.a (lI a.f d)) ⟨St a,c⟩:=by show(if(vI a.f).length<=4096 then R.ok ((mL d (vI a.f)).getD (.a 0)) ⟨St a,c⟩else R.b)=_;refine ah (if_pos (by rw[tK];exact h)) ?_;rw[uU];unfold lI;cases lz d a.f<;>rfl
 exact lq [.n,.v _ _ (Rg b a c d e f g),.n,.n,.v _ _ i] (by kernel_rfl)
theorem Ri(d)(e:512<=d)(f:d<512+16*a.lE)(g:d%16=0)(h:a.f.length<=4096)(i:lz d a.f=Z 1):Rs (b+24) 761 [.b 6,.a d] a c .g:=by exact lq [.v _ _ (mq ((λb=>Rh b a c d e f g h) (b+4)) ((by unfold lI;refine i▸?_;rfl:lI a.f d=1))),.n] (by kernel_rfl)
theorem yg(d:a.d.length<=4096):Rs (b+10) 768 [.b 6] a c (.a (a.lE-a.e+a.d.length)):=by exact lq [.v _ _ ((Bl a c d))] (by kernel_rfl)
theorem GN(d:a.d.length<=4096)(e:1<=a.lE-a.e+a.d.length):Rs (b+16) 775 [.b 6,.a 1] a c .g:=by exact lq [.v _ _ ((λb=>yg b a c d) (b+2)),.b _ _ (rh ((Y [a.lE,a.e] [a.d.length] ⟨[1],[],[.l .u (.p (.s .a .b) (.n .a))],.N (.t (.p (.s .a .b) (.n .a)) .u)⟩) e:¬(a.lE-a.e+↑a.d.length<1)))] (by kernel_rfl)
theorem Rj(d:a.d.length<=4096)(e:a.lE-a.e+a.d.length<1):Rz (b+16) 775 [.b 6,.a 1] a c ⟨83,0⟩ a (c+1):=by
 have f:∀(b:Nat)g h,kZ 43 g=Z (.a (.a 1))->(kX lj (b+2)).ev g (.v [] (.b 43) [32,112,97,103,101,115]) h=.ok (.d [49,32,112,97,103,101,115]) h:=λb g h i=>by show M.bind ((kX lj (b+1)).ev g (.b 43)) _ h=_;exact(M.lO (sJ i)).trans rfl
 exact lq [.v _ _ (yg (b+2) a c d),.b _ _ (mG e),.v _ _ (f (b+11) [(53,.a (.b 6)),(43,.a (.a 1))] ⟨St a,c⟩ rfl),.y] (by kernel_rfl)
theorem Bn(d:Nat)(e:d=5\/d=1)(f:Int)(g:f=d)(h)(i:0<=h)(j:h+16<=1024)(k:h%4=0)(l:a.ws.length+4<=4096):∃m,∀b,Rq (b+40) 782 [.b 6,.a h,.a f] a c .g {a with ws:=mi a.ws (h/4) (wd d)} m:=by subst g;refine lp (QX a c d e h i j k l) λn o=>?_;refine mf n (λb=>?_);exact lq [.y,.v _ _ ((by rcases e with rfl|rfl<;>exactλ_=>rfl:∀p,l6 .f [.c [.a d]] p=.ok (.f [d]) p) ({σ:=St a,mu:=c})),.o _ _ ((rfl:lU .Mult (.f [d]) (.a 16)=Z (.f (ou d)))),.v _ _ (o (b+6))] (by kernel_rfl)
end
end
section
section
variable(a:Q)(b:Nat)
theorem GP(c d)(e:a.f.length<=4096):rD (.b 8) (.a c) (.a d) ⟨St a,b⟩=.ok () ⟨St {a with f:=mc c d a.f},b+1⟩:=by show(if(vI a.f).length<=4096 then R.ok () ⟨(St a).set 8 (.m (pT c (.a d) (vI a.f))),b+1⟩else R.b)=_;refine ah (if_pos (by rw[tK];exact e)) ?_;rw[Gw,Gm]
theorem Rk(c:a.d=[])(d:0<=a.e)(e:a.e<a.lE)(f:a.lE<=5)(g:a.ws.length+4<=4096)(h:a.f.length<=4096):∃i,∀j,Rq (j+60) 789 [.b 6] a b (.a (512+a.e*16)) {a with e:=a.e+1,f:=mc (512+a.e*16) 1 a.f,ws:=mi a.ws ((512+a.e*16)/4) (wd 5)} i:=by
 refine lp (Bn {a with e:=a.e+1,f:=mc (512+a.e*16) 1 a.f} (b+1+1) 5 (.inl rfl) 5 rfl (512+a.e*16) ((Y [a.e] [] ⟨[1],[],[.l .o .a],.l .o (.p (.k 512) (.w .a 16))⟩) d) ((Y [a.e,a.lE] [] ⟨[1,2],[],[.t .a .b,.l .b (.k 5)],.l (.p (.p (.k 512) (.w .a 16)) (.k 16)) (.k 1024)⟩) e f) (Y [a.e] [] ⟨[3,1],[.m (.p (.k 512) (.w .a 16)) 4],[],.e .c .o⟩) g) λk l=>?_;refine mf k (λj=>?_);have m:a.d.length=0:=by refine c▸?_;rfl
 have n:∀j,Rs (j+10) 740 [.b 6,.a a.e] a b (.a (512+a.e*16)):=λj=>by exact lq [.o _ _ ((Rb (b:=a.e) ⟨zb d,(Y [a.e,a.lE] [] ⟨[1,2],[],[.t .a .b,.l .b (.k 5)],.t .a (.k 1000000000000000)⟩) e f⟩))] (by kernel_rfl)
 have o:rD (.b 8) (.a (512+a.e*16)) (.a 1) ⟨St {a with e:=a.e+1},b+1⟩=_:=GP {a with e:=a.e+1} (b+1) (512+a.e*16) 1 h;exact lq [.v _ _ ((λj=>GN j a b ((Y [] [a.d.length] ⟨[1],[],[.E .a .o],.L .a (.k 4096)⟩) m) ((Y [a.e,a.lE] [a.d.length] ⟨[3,1],[],[.t .a .b,.E .a .o],.l .u (.p (.s .b .a) (.n .a))⟩) e m)) (j+41)),.v _ _ ((by refine ah (Bl a b ((Y [] [a.d.length] ⟨[1],[],[.E .a .o],.L .a (.k 4096)⟩) m)) ?_;refine m▸?_;rfl:l6 .b [.b 7] ⟨St a,b⟩=.ok (.a 0) ⟨St a,b⟩)),.n,.v _ _ (n (j+46)),.u _ _ (o),.v _ _ (l (j+17))] (by kernel_rfl)
theorem Rl(c)(d)(e:a.d=c++[d])(f:a.d.length<=10)(g:1<=a.lE-a.e+a.d.length)(h:512<=d)(i:d<=1000)(j:d%4=0)(k:a.ws.length+4<=4096)(l:a.f.length<=4096):∃m,∀n,Rq (n+60) 789 [.b 6] a b (.a d) {a with d:=c,f:=mc d 1 a.f,ws:=mi a.ws (d/4) (wd 5)} m:=by
 refine lp (Bn {a with d:=c,f:=mc d 1 a.f} (b+1+1) 5 (.inl rfl) 5 rfl d ((Y [d] [] ⟨[3,2,1],[.m .a 4],[.l (.k 512) .a,.e .c .o],.l .o .a⟩) h j) ((Y [d] [] ⟨[3,2,1],[.m .a 4],[.l .a (.k 1000),.e .c .o],.l (.p .a (.k 16)) (.k 1024)⟩) i j) ((Y [d] [] ⟨[1,3],[.m .a 4],[.e .c .o],.e .c .o⟩) j) k) λo p=>?_;refine mf o (λn=>?_);have q:vu lj 126 7 [] ⟨St a,b⟩=.ok (.a d) ⟨St {a with d:=c},b+1⟩:=by refine(ah (if_pos (by rw[tN];exact lk f rfl)) ?_:(if(vL a.d).length<=4096 then(match(vL a.d).getLast? with|some r=>R.ok r ⟨(St a).set 7 (.c (vL a.d).dropLast),b+1⟩|D=>.b)else .b)=_);rw[(by rw[e];unfold vL;rw[dO];rfl:vL a.d=vL c++[.a d]),List.getLast?_concat,List.dropLast_concat,Gl]
 have s:rD (.b 8) (.a d) (.a 1) ⟨St {a with d:=c},b+1⟩=_:=GP {a with d:=c} (b+1) d 1 l;have t:a.d.length<=4096:=ao f (by decide);exact lq [.v _ _ (GN (n+41) a b t g),.v _ _ (Bl a b t),.b _ _ (mG (by refine e▸?_;rw[aW,gH];exact Y [] [c.length] ⟨[1],[],[],.t .o (.n (.p .a .u))⟩:0<(a.d.length:Int))),.v _ _ q,.u _ _ s,.v _ _ (p (n+17))] (by kernel_rfl)
theorem Rm(c:a.d.length<=4096)(d:a.lE-a.e+a.d.length<1)(e):Rz (e+60) 789 [.b 6] a b ⟨83,0⟩ a (b+1+1):=by exact lq [.v _ _ ((λe=>Rj e a b c d) (e+41))] (by kernel_rfl)
theorem GQ(c)(d:512<=c)(e:c<512+16*a.lE)(f:c<=1000)(g:c%16=0)(h:a.f.length<=4096)(i:lz c a.f=Z 1)(j:a.d.length<=4096)(k:a.ws.length+4<=4096):∃l,∀m,Rq (m+60) 817 [.b 6,.a c] a b (.h I) {a with f:=mH c a.f,d:=a.d++[c],ws:=mi a.ws (c/4) (wd 1)} l:=by
 refine lp (Bn {a with f:=mH c a.f,d:=a.d++[c]} (b+1+1) 1 (.inr rfl) 1 rfl c ((Y [c] [] ⟨[3,2,1],[.m .a 16],[.l (.k 512) .a,.e .c .o],.l .o .a⟩) d g) ((Y [c] [] ⟨[3,2,1],[.m .a 16],[.l .a (.k 1000),.e .c .o],.l (.p .a (.k 16)) (.k 1024)⟩) f g) (zc g) k) λn o=>?_;refine mf n (λm=>?_);have p:mS lj (.b 8) (.a c) ⟨St a,b⟩=.ok (.a 1) ⟨St a,b⟩:=by show M.c (mL c (vI a.f)) ⟨St a,b⟩=_;rw[uU,i];rfl
 have q:qu lj 126 8 [.a c] ⟨St a,b⟩=.ok (.a 1) ⟨St {a with f:=mH c a.f},b+1⟩:=by show(if(vI a.f).length<=4096 then(match mL c (vI a.f)with|some r=>R.ok r ⟨(St a).set 8 (.m (qU c (vI a.f))),b+1⟩|D=>R.b)else R.b)=_;refine ah (if_pos (by rw[tK];exact h)) ?_;rw[uU,i,Gy,Gm];rfl
 have s:vu lj 127 7 [.a c] ⟨St {a with f:=mH c a.f},b+1⟩=.ok .g ⟨St {a with f:=mH c a.f,d:=a.d++[c]},b+1+1⟩:=by refine(ah (if_pos (by rw[tN];exact j)) ?_:(if(vL a.d).length<=4096 then R.ok V.g ⟨(St {a with f:=mH c a.f}).set 7 (.c (vL a.d++[.a c])),b+1+1⟩else .b)=_);rw[(by unfold vL;rw[dO];rfl:vL a.d++[.a c]=vL (a.d++[c])),Gl]
 exact lq [.v _ _ ((λm=>Ri m a b c d e g h i) (m+33)),.v _ _ (p),.n,.v _ _ (q),.v _ _ (s),.v _ _ (o (m+17))] (by kernel_rfl)
theorem GR(c)(d)(e)(f:0<=c)(g:c+16<=1024)(h:c%4=0)(i:d.ws.length+4<=4096)(j:∀k,Rq (k+60) 789 [.b 6] a b (.a c) d e):∃l,∀k,Rq (k+70) 291 [.b 10] a b (.a c) {d with ws:=mi d.ws (c/4) 0} l:=by refine lp (QU d e c f g h i) λm n=>?_;refine mf m (λk=>?_);exact lq [.v _ _ (j (k+7)),.v _ _ (n (k+37))] (by kernel_rfl)
theorem Rn(c)(d:a.d.length<=4096)(e:a.lE-a.e+a.d.length<1):Rz (c+70) 291 [.b 10] a b ⟨83,0⟩ a (b+1+1+1):=by exact lq [.v _ _ ((λc=>Rm a b d e c) (c+7))] (by kernel_rfl)
end
end
section
noncomputable def oy(a b:Int):Prop:=(0<=a/\a<4096)/\a%16=0/\(0<=b/\b<1024)/\b%2=1/\(ae b 10==0)=ak/\(ae b 6==4)=ak
noncomputable def lF(a:Int×Int):Int:=a.1/16*1024+a.2
noncomputable def pI:Option (Int×Int)->Int|some a=>lF a|D=>0
noncomputable def yh:Option (Int×Int)->Prop|some a=>oy a.1 a.2|D=>True
theorem nX(a:oy b c):(0<=lF (b,c)/\lF (b,c)<1000000000)/\(ae (lF (b,c)) 1==0)=ak/\(ae (lF (b,c)) 10==0)=ak/\(ae (lF (b,c)) 6==4)=ak/\ae (lF (b,c)) 1023=c/\lF (b,c)/1024*16=b/\ae (lF (b,c)) 16=ae c 16/\ae (lF (b,c)) 2=ae c 2/\(lF (b,c)==0)=ak:=by
 obtain⟨d,e,f,g,h,i⟩:=a;unfold lF;refine H_ ((Y [b,c] [] ⟨[3,2,5,1,6,4],[.m .a 16,.m .b 2],[.A (.l .o .a) (.t .a (.k 4096)),.e .d .o,.A (.l .o .b) (.t .b (.k 1024)),.e .f .u],.A (.l .o (.p (.w .c 1024) .b)) (.t (.p (.w .c 1024) .b) (.k 1000000000))⟩) d e f g) ?_ ?_ ?_ ?_ ((Y [b,c] [] ⟨[1,4,5,2,6,7,3],[.m .a 16,.m .b 2,.d (.p (.w .c 1024) .b) 1024],[.e .d .o,.A (.l .o .b) (.t .b (.k 1024)),.e .f .u],.e (.w .h 16) .a⟩) e f g) (sN ((Y [b] [] ⟨[2,1],[.d .a 16],[.A (.l .o .a) (.t .a (.k 4096))],.l .o .b⟩) d) f (by decide)) (sN ((Y [b] [] ⟨[2,1],[.d .a 16],[.A (.l .o .a) (.t .a (.k 4096))],.l .o .b⟩) d) f (by decide)) ?_;·rw[gK,beq_eq_false_iff_ne];dsimp only;lia
 ·rw[sN (by dsimp only;exact s6 d e) f (by decide)];exact h
 ·rw[sN (by dsimp only;exact s6 d e) f (by decide)];exact i
 ·dsimp only;refine ah (we ((Y [b,c] [] ⟨[3,2,5,1,6,4],[.m .a 16,.m .b 2],[.A (.l .o .a) (.t .a (.k 4096)),.e .d .o,.A (.l .o .b) (.t .b (.k 1024)),.e .f .u],.l .o (.p (.w .c 1024) .b)⟩) d e f g)) ?_;exact(Y [c,b] [] ⟨[1,4,7,2,5,3],[.m .a 2,.d .b 16,.m (.p (.w .e 1024) .a) 1024],[.A (.l .o .a) (.t .a (.k 1024)),.e .d .u],.e .h .a⟩) f g
 ·rw[beq_eq_false_iff_ne];dsimp only;lia
theorem rl(a:0<=b/\b<4096)(c:b%16=0):(0<=b*64+1/\b*64+1<1000000000)/\(ae (b*64+1) 1==0)=ak/\(ae (b*64+1) 10==0)=I/\(ae (b*64+1) 6==4)=ak/\(b*64+1)/1024*16=b:=by
 have d:b*64+1=b/16*1024+1:=by exact(Y [b] [] ⟨[1,3],[.m .a 16],[.e .c .o],.e (.p (.w .a 64) .u) (.p (.w .b 1024) .u)⟩) c
 refine qp (by exact(Y [b] [] ⟨[3,2,1],[.m .a 16],[.A (.l .o .a) (.t .a (.k 4096)),.e .c .o],.A (.l .o (.p (.w .a 64) .u)) (.t (.p (.w .a 64) .u) (.k 1000000000))⟩) a c) ?_ ?_ ?_ (by exact(Y [b] [] ⟨[3,1,4,2],[.m .a 16,.d (.p (.w .a 64) .u) 1024],[.e .c .o],.e (.w .d 16) .a⟩) c);·rw[gK,beq_eq_false_iff_ne];lia
 ·rw[d,sN (by exact s6 a c) (by decide) (by decide)];rfl
 ·rw[d,sN (by exact s6 a c) (by decide) (by decide)];rfl
section
variable{b:PT}{c:Nat}{d:Ro}{a:MS}
theorem Rp(e)(f):(kX b (c+1)).ex d (.l e f) a=M.bind (lH (kX b c) e d) (λg=>match g.2 with
 |.c h=>match oN b h f with|some i=>λa=>qX g.1 i ⟨a.σ,a.mu+3⟩|D=>M.b
 |_=>M.pure g) a:=rfl
end
noncomputable def sQ:List Nat:=[108,111,97,100]
section
variable(a:Nat)(b:Q)(c:Nat)
theorem pj(d)(e:0<=d)(f:d<256):Rs (a+16) 298 [.b 10,.a d] b c (.e [.a (d/16/4),.a (d/16%4),.a (d%16)]):=by exact lq [.v _ _ ((λa=>yc a b c d e f) (a+5)),.n] (by kernel_rfl)
theorem Bo(d)(e:256<=d):Rz (a+16) 298 [.b 10,.a d] b c ⟨52,0⟩ b (c+1):=by exact lq [.v _ _ ((λa=>Rf a b c d e) (a+5)),.y,.y] (by kernel_rfl)
theorem GS(d)(e:0<=d)(f:d<256)(g:b.ws.length<=4096)(h:lI b.ws (128+d/64)=0):Rs (a+30) 313 [.b 10,.a 512,.a d] b c (.a 0):=by exact lq [.v _ _ ((λa=>pj a b c d e f) (a+11)),.o _ _ ((mW (fA e f))),.v _ _ (pg c e f g h (a+15)),.y,.y,.n] (by kernel_rfl)
theorem GT(d e f)(g:0<=d)(h:d<256)(i:b.ws.length<=4096)(j:lI b.ws (128+d/64)=lF (e,f))(k:oy e f):Rs (a+30) 313 [.b 10,.a 512,.a d] b c (.a (lF (e,f))):=by refine oW (nX k) λl m n o p q r s t=>?_;exact lq [.v _ _ ((λa=>pj a b c d g h) (a+11)),.o _ _ ((mW (fA g h))),.v _ _ (pg c g h i j (a+15)),.b _ _ m,.v _ _ (@nG (a+19) ({σ:=St b,mu:=c}) (lF (e,f))),.b _ _ (congrArg dF n),.y,.b _ _ (congrArg dF m)] (by kernel_rfl)
theorem GU(d e)(f:Option (Int×Int))(g:0<=d)(h:d<256)(i:b.ws.length<=4096)(j:lI b.ws (128+d/64)=e*64+1)(k:0<=e/\e<=1000)(l:e%16=0)(m:lI b.ws (e/4+d/16%4)=pI f)(n:yh f):Rs (a+30) 313 [.b 10,.a 512,.a d] b c (.a (pI f)):=by have o:=λa=>pj a b c d g h;have p:=mW (fA g h);refine nc (rl (b:=e) (rr k l) l) λq r s t u=>?_;have v:=λa=>oF a b c (e*64+1) q;have w:=mW (sA (d/16));induction f with|none=>exact lq [.v _ _ (o (a+11)),.o _ _ (p),.v _ _ (pg c g h i j (a+15)),.b _ _ r,.v _ _ (@nG (a+19) ({σ:=St b,mu:=c}) (e*64+1)),.b _ _ (congrArg dF s),.n,.v _ _ (mq (v (a+15)) (u)),.o _ _ (w),.v _ _ (rk c k l (sA _) i (m:lI b.ws (e/4+d/16%4)=0) (a+15)),.n] (by kernel_rfl)|some x=>obtain⟨y,z⟩:=x;have A:=m;refine oW (nX (b:=y) (c:=z) n) λB C E F G H J L M=>?_;exact lq [.v _ _ (o (a+11)),.o _ _ (p),.v _ _ (pg c g h i j (a+15)),.b _ _ r,.v _ _ (@nG (a+19) ({σ:=St b,mu:=c}) (e*64+1)),.b _ _ (congrArg dF s),.n,.v _ _ (mq (v (a+15)) (u)),.o _ _ (w),.v _ _ (rk c k l (sA _) i A (a+15)),.b _ _ (congrArg dF C)] (by kernel_rfl)
theorem Rr(d)(e:0<=d)(f:d<256)(g:b.ws.length<=4096)(h:lI b.ws (128+d/64)=0):Rs (a+40) 320 [.b 10,.a 512,.a d] b c .g:=by exact lq [.v _ _ ((λa=>pj a b c d e f) (a+21)),.v _ _ ((λa=>GS a b c d e f g h) (a+7)),.y] (by kernel_rfl)
theorem Ru(d e f)(g:0<=d)(h:d<256)(i:b.ws.length<=4096)(j:lI b.ws (128+d/64)=lF (e,f))(k:oy e f)(l:e%64=0):Rs (a+40) 320 [.b 10,.a 512,.a d] b c (.a (e+d%64)):=by
 have m:=λa=>GT a b c d e f g h i j k;refine oW (nX k) λn o p q r s t u v=>?_;have w:=λa=>oF a b c (lF (e,f)) n;have x:ae d 63=d%64:=bitAnd_m6 d;have y:ai e (d%64)=e+d%64:=by
  obtain⟨z,_⟩:=k;have:=GF (b:=e/64) (d:=d%64) ((Y [e] [] ⟨[3,2,1],[.m .a 64],[.e .c .o,.A (.l .o .a) (.t .a (.k 4096))],.l .o .b⟩) l z) (Y [d] [] ⟨[1,3],[.m .a 64],[],.A (.l .o .c) (.t .c (.k 64))⟩);have A:e/64*64=e:=by exact(Y [e] [] ⟨[1,3],[.m .a 64],[.e .c .o],.e (.w .b 64) .a⟩) l
  rwa[A]at this
 have B:=mW (fA g h);have C:=λa=>pj a b c d g h;refine ah (b:=.ok (.a (ai e (ae d 63))) _) ?_ (congrArg (λE=>R.ok (V.a E) _) (x.symm▸(y)));exact lq [.v _ _ (C (a+21)),.v _ _ (m (a+7)),.b _ _ v,.o _ _ B,.v _ _ (pg c g h i j (a+23)),.v _ _ (nG (b:=a+30) (lF (e,f)) (a:=⟨St b,c⟩)),.b _ _ (congrArg dF p),.v _ _ (mq (w (a+25)) s)] (by kernel_rfl)
theorem GV(d e)(f:Option (Int×Int))(g:0<=d)(h:d<256)(i:b.ws.length<=4096)(j:lI b.ws (128+d/64)=e*64+1)(k:0<=e/\e<=1000)(l:e%16=0)(m:lI b.ws (e/4+d/16%4)=pI f)(n:yh f):Rs (a+40) 320 [.b 10,.a 512,.a d] b c (match f with|D=>.g|some o=>.a (o.1+d%16)):=by
 have p:=λa=>pj a b c d g h;have q:=λa=>GU a b c d e f g h i j k l m n
 refine nc (rl (b:=e) (rr k l) l) λr s t u v=>?_;induction f with|none=>
  exact lq [.v _ _ (p (a+21)),.v _ _ (q (a+7)),.y] (by kernel_rfl)|some o=>
  obtain⟨w,x⟩:=o;refine oW (nX (b:=w) (c:=x) n) λy z A B C E F G H=>?_;have J:ai w (d%16)=w+d%16:=by
   obtain⟨L,M,_⟩:=n;have:=Bk (b:=w/16) (d:=d%16) ((Y [lF (w,x),w] [] ⟨[2,5,4,1,3],[.d .a 1024,.m .b 16],[.e (.w .c 16) .b,.A (.l .o .b) (.t .b (.k 4096)),.e .e .o],.l .o .d⟩) E L M) ⟨bz _ (by decide),bq _ (by decide)⟩;have N:w/16*16=w:=by exact(Y [lF (w,x),w] [] ⟨[2,5,4,1,3],[.d .a 1024,.m .b 16],[.e (.w .c 16) .b,.e .e .o],.e (.w .d 16) .b⟩) E M
   rwa[N]at this
  have O:=mW (fA g h);have P:=λa=>oF a b c (lF (w,x)) y;have Q:=λa=>@nG a ⟨St b,c⟩ (e*64+1);have S:=pg c g h i j;refine ah (b:=.ok (.a (ai w (d%16))) _) ?_ (congrArg (λT=>R.ok (V.a T) _) J);exact lq [.v _ _ (p (a+21)),.v _ _ (q (a+7)),.b _ _ H,.o _ _ O,.v _ _ (S (a+23)),.v _ _ (Q (a+30)),.b _ _ (congrArg (λT=>!T) t),.v _ _ (mq (P (a+26)) E)] (by kernel_rfl)
theorem Rv(d)(e:0<=d)(f:d+4<=1024)(g:d%4=0)(h:b.ws.length<=4096):Rs (a+20) 536 [.b 1,.a d,.a 4] b c (.a (lI b.ws (d/4))):=by exact lq [.y,.v _ _ ((λa=>ri a b c d e f g h) (a+4))] (by kernel_rfl)
theorem GX(d)(e:0<=d)(f:d+4<=1024)(g:d%4=0)(h:b.ws.length<=4096):Rs (a+28) 689 [.b 12,.a d,.a 4] b c (.a (lI b.ws (d/4))):=by exact lq [.b _ _ (mG (e:0<=d)),.b _ _ (mG (f:d+4<=1024)),.y,.v _ _ ((λa=>Rv a b c d e f g h) (a+4))] (by kernel_rfl)
theorem Bp(d e)(f:0<=d)(g:d+4<=1024)(h:d%4=0)(i:b.ws.length<=4096)(j:(ae (lI b.ws (d/4)) 1==0)=ak)(k:(ae (lI b.ws (d/4)) 6==4)=ak):Rs (a+36) 241 [.b 15,.a d,.a e,.d sQ] b c (.a (lI b.ws (d/4))):=by exact lq [.v _ _ ((λa=>GX a b c d f g h i) (a+4)),.v _ _ (@x9 (a+24) ({σ:=St b,mu:=c}) (lI b.ws (d/4))),.b _ _ (congrArg dF (tI (congrArg dF (j):(!ae (lI b.ws (d/4)) 1==0)=I) (congrArg dF (k):(!ae (lI b.ws (d/4)) 6==4)=I)))] (by kernel_rfl)
theorem GY(d e)(f:0<=d)(g:d+4<=1024)(h:d%4=0)(i:b.ws.length<=4096)(j:0<=e/\e<256)(k:lI b.ws (d/4)=0):Rz (a+36) 241 [.b 15,.a d,.a e,.d sQ] b c ⟨103,13⟩ b (c+1):=by exact lq [.v _ _ (mq ((λa=>GX a b c d f g h i) (a+4)) (k)),.v _ _ (@x9 (a+24) ({σ:=St b,mu:=c}) (0)),.y,.b _ _ (tI (rfl:(aE (1<=13))=I) (tI (rfl:(aE (13<=100))=I) (tI (mG ((Y [e] [] ⟨[1],[],[.A (.l .o .a) (.t .a (.k 256))],.l .o .a⟩) j:0<=e):(aE (0<=e))=I) (mG ((Y [e] [] ⟨[1],[],[.A (.l .o .a) (.t .a (.k 256))],.l .a (.k 100000)⟩) j:e<=100000):(aE (e<=100000))=I):(aE (0<=e)&&aE (e<=100000))=I):(aE (13<=100)&&(aE (0<=e)&&aE (e<=100000)))=I))] (by kernel_rfl)
theorem GZ(d):Rt (a+10) 212 [.a d,.d sQ,.a 0,.a 0,.a 0] e (.h (!(ae d 16==0)&&!(ae d 2==0))) e:=by
 cases b:ae d 16==0 with
 |false=>cases c:ae d 2==0 with|false=>exact lq [.y,.b _ _ b,.n,.n,.n,.n,.n,.b _ _ (congrArg dF c)] (by kernel_rfl)|true=>exact lq [.y,.b _ _ b,.n,.n,.n,.n,.n,.b _ _ (congrArg dF c),.n] (by kernel_rfl)
 |true=>exact lq [.y,.b _ _ b,.y] (by kernel_rfl)
end
end
section
noncomputable def pJ(a:Int):Bool:=!(ae a 16==0)&&!(ae a 2==0)
section
variable(a:Nat)(b:Q)(c:Nat)
theorem Rw(d)(e:0<=d)(f:d<256)(g:b.ws.length<=4096)(h:lI b.ws (128+d/64)=0):Rq (a+60) 263 [.b 15,.a 512,.a d,.d sQ,.a 0] b c (.e [.a 13]) b (c+1+3):=by
 have i:=mW (fA e f);have j:(512+4*(d/16/4))/4=128+d/64:=by exact wO
 have k:∀(l m n:V)o,mS lj (.e [l,m,n]) (.a 0) o=.ok l o:=λ_ _ _ _=>rfl;exact lq [.v _ _ ((λa=>yc a b c d e f) (a+49)),.n,.o _ _ (i),.v _ _ ((λa=>GY a b c (512+4*(d/16/4)) d (zd e j) (ze f j) (zf j) g ⟨e,f⟩ (by refine j▸?_;exact h)) (a+20))] (by kernel_rfl)
theorem Ry(d e f)(g:0<=d)(h:d<256)(i:b.ws.length<=4096)(j:lI b.ws (128+d/64)=lF (e,f))(k:oy e f)(l:e%64=0):Rs (a+60) 263 [.b 15,.a 512,.a d,.d sQ,.a 0] b c (if pJ f then .a (e+d%64)else .e [.a 13]):=by
 refine ah Be ?_;have m:(512+4*(d/16/4))/4=128+d/64:=by exact wO
 refine oW (nX k) λn o p q r s t u v=>?_;have w:=λa=>Bp a b c (512+4*(d/16/4)) d (zd g m) (ze h m) (zf m) i (by rw[m,j];exact o) (by rw[m,j];exact q);rw[m,j]at w;have x:∀(y z A:V)B,mS lj (.e [y,z,A]) (.a 0) B=.ok y B:=λ_ _ _ _=>rfl;have C:=λa=>oF a b c (lF (e,f)) n;have E:ai e (d%64)=e+d%64:=by
  obtain⟨F,_⟩:=k;have:=GF (b:=e/64) (d:=d%64) ((Y [e] [] ⟨[3,2,1],[.m .a 64],[.e .c .o,.A (.l .o .a) (.t .a (.k 4096))],.l .o .b⟩) l F) (Y [d] [] ⟨[1,3],[.m .a 64],[],.A (.l .o .c) (.t .c (.k 64))⟩);have G:e/64*64=e:=by exact(Y [e] [] ⟨[1,3],[.m .a 64],[.e .c .o],.e (.w .b 64) .a⟩) l
  rwa[G]at this
 have H:=mW (fA g h);have J:=λa=>@nG a ⟨St b,c⟩ (lF (e,f));have L:=λa=>GZ a (e:=⟨St b,c⟩) (lF (e,f));have M:=λa=>yc a b c d g h;have N:pJ f=(!(ae (lF (e,f)) 16==0)&&!(ae (lF (e,f)) 2==0)):=by unfold pJ;rw[t,u]
 rw[N];cases O:(!(ae (lF (e,f)) 16==0)&&!(ae (lF (e,f)) 2==0))with|true=>refine ah (b:=.ok (.a (ai e (ae d 63))) _) ?_ (congrArg (λA=>R.ok (V.a A) _) (by rw[bitAnd_m6 d];exact E));exact p_ m8 [.v _ _ (M (a+49)),.n,.o _ _ (H),.v _ _ (w (a+20)),.v _ _ (J (a+48)),.b _ _ (congrArg (λA=>!!A) (p)),.v _ _ (mq (C (a+47)) (s)),.v _ _ (J (a+48)),.b _ _ (congrArg (λA=>!!A) (p)),.b _ _ (congrArg (λA=>!A==0) (l)),.v _ _ (L (a+44)),.b _ _ (congrArg (λA=>!A) (O)),.n] (by kernel_rfl)|false=>exact p_ m8 [.v _ _ (M (a+49)),.n,.o _ _ (H),.v _ _ (w (a+20)),.v _ _ (J (a+48)),.b _ _ (congrArg (λA=>!!A) (p)),.v _ _ (mq (C (a+47)) (s)),.v _ _ (J (a+48)),.b _ _ (congrArg (λA=>!!A) (p)),.b _ _ (congrArg (λA=>!A==0) (l)),.v _ _ (L (a+44)),.b _ _ (congrArg (λA=>!A) (O)),.y] (by kernel_rfl)
theorem G0(d e)(f:Option (Int×Int))(g:0<=d)(h:d<256)(i:b.ws.length<=4096)(j:lI b.ws (128+d/64)=e*64+1)(k:0<=e/\e<=1000)(l:e%16=0)(m:lI b.ws (e/4+d/16%4)=pI f)(n:yh f):∃o,∀a,Rq (a+60) 263 [.b 15,.a 512,.a d,.d sQ,.a 0] b c (match f with|D=>.e [.a 13]|some p=>if pJ p.2 then .a (p.1+d%16)else .e [.a 13]) b o:=by
 have q:=λa=>yc a b c d g h;have r:=mW (fA g h);have s:(512+4*(d/16/4))/4=128+d/64:=by exact wO
 refine nc (rl (b:=e) (rr k l) l) λt u v w x=>?_;have y:=λa=>Bp a b c (512+4*(d/16/4)) d (zd g s) (ze h s) (zf s) i (by rw[s,j];exact u) (by rw[s,j];exact w);replace y:=j▸s▸y;have a0:∀(f p z:V)A,mS lj (.e [f,p,z]) (.a 0) A=.ok f A:=λ_ _ _ _=>rfl;have a3:∀(f p z:V)A,mS lj (.e [f,p,z]) (.a 1) A=.ok p A:=λ_ _ _ _=>rfl;have B:=λa=>oF a b c (e*64+1) t;have C:=mW (sA (d/16));have E:(e+4*(d/16%4))/4=e/4+d/16%4:=by exact(Y [e,d] [] ⟨[1,4,5,2,8,7,3],[.m .a 16,.d .b 16,.m .e 4,.d (.p .a (.m 4 .h)) 4,.d .a 4],[.e .d .o],.e .i (.p .j .h)⟩) l
 induction f with|none=>
  refine⟨c+1+3,λa=>?_⟩;refine ah Be ?_;have F:=λa=>@nG a ⟨St b,c⟩ (e*64+1);have G:=(λa=>GY a b c (e+4*(d/16%4)) d ((Y [e,d] [] ⟨[2,6,7,3,1,5,4],[.m .a 16,.d .b 16,.m .e 4],[.A (.l .o .a) (.l .a (.k 1000)),.e .d .o],.l .o (.p .a (.m 4 .h))⟩) k l) ((Y [e,d] [] ⟨[1,4,5,9,3,2,7,8],[.m .a 16,.d .b 16,.d .b 64,.m .e 4,.d (.p (.k 512) (.m 4 .h)) 4],[.A (.l .o .a) (.l .a (.k 1000)),.e .d .o,.e .j (.p (.k 128) .f)],.l (.p (.p .a (.m 4 .i)) (.k 4)) (.k 1024)⟩) k l s) ((Y [e,d] [] ⟨[1,4,5,9,2,3],[.m .a 16,.d .b 16,.m .e 4,.m (.p .a (.m 4 .h)) 4],[.e .d .o],.e .j .o⟩) l) i ⟨g,h⟩ (by refine E▸?_;exact m));exact p_ m8 [.v _ _ (q (a+49)),.n,.o _ _ (r),.v _ _ (y (a+20)),.v _ _ (F (a+48)),.b _ _ (congrArg (λz=>!!z) (v)),.v _ _ (mq (B (a+43)) (x)),.o _ _ (C),.v _ _ (G (a+19))] (by kernel_rfl)|some p=>
  obtain⟨H,J⟩:=p;refine⟨c,λa=>?_⟩;unfold Rq;rw[Be];refine oW (nX (b:=H) (c:=J) n) λL M N a4 a5 O a6 a7 a8=>?_;have P:=λa=>Bp a b c (e+4*(d/16%4)) d ((Y [e,d] [] ⟨[2,6,7,3,1,5,4],[.m .a 16,.d .b 16,.m .e 4],[.A (.l .o .a) (.l .a (.k 1000)),.e .d .o],.l .o (.p .a (.m 4 .h))⟩) k l) ((Y [e,d] [] ⟨[1,4,5,9,3,2,7,8],[.m .a 16,.d .b 16,.d .b 64,.m .e 4,.d (.p (.k 512) (.m 4 .h)) 4],[.A (.l .o .a) (.l .a (.k 1000)),.e .d .o,.e .j (.p (.k 128) .f)],.l (.p (.p .a (.m 4 .i)) (.k 4)) (.k 1024)⟩) k l s) ((Y [e,d] [] ⟨[1,4,5,9,2,3],[.m .a 16,.d .b 16,.m .e 4,.m (.p .a (.m 4 .h)) 4],[.e .d .o],.e .j .o⟩) l) i (by refine E▸?_;refine m▸?_;exact M) (E▸m▸(a4));have a9:lI b.ws (e/4+d/16%4)=lF (H,J):=m;rw[E,a9]at P;have Q:H%16=0:=n.2.1;have b0:ai H (d%16)=H+d%16:=by
   obtain⟨S,b1,_⟩:=n;dsimp only at S b1;have:=Bk (b:=H/16) (d:=d%16) ((Y [lF (H,J),H] [] ⟨[2,5,4,1,3],[.d .a 1024,.m .b 16],[.e (.w .c 16) .b,.e .e .o,.A (.l .o .b) (.t .b (.k 4096))],.l .o .d⟩) O Q S) ((Y [d] [] ⟨[1,6,3,5,4],[.d .a 64,.m .a 16,.d .c 4,.d (.p (.k 512) (.m 4 .e)) 4],[.e .f (.p (.k 128) .b)],.A (.l .o .d) (.t .d (.k 16))⟩) s);have b2:H/16*16=H:=by exact(Y [lF (H,J),H] [] ⟨[2,5,4,1,3],[.d .a 1024,.m .b 16],[.e (.w .c 16) .b,.e .e .o],.e (.w .d 16) .b⟩) O Q
   rwa[b2]at this
  have F:=λa=>@nG a ⟨St b,c⟩ (e*64+1);have T:=λa=>@nG a ⟨St b,c⟩ (lF (H,J));have U:=λa=>GZ a (e:=⟨St b,c⟩) (lF (H,J));have W:=λa=>oF a b c (lF (H,J)) L;have b3:pJ J=(!(ae (lF (H,J)) 16==0)&&!(ae (lF (H,J)) 2==0)):=by unfold pJ;rw[a6,a7]
  show _=R.ok (if pJ J=I then V.a (H+d%16)else V.e [V.a 13]) _;rw[b3];cases X:(!(ae (lF (H,J)) 16==0)&&!(ae (lF (H,J)) 2==0))with|true=>refine ah (b:=.ok (.a (ai H (ae d 15))) _) ?_ (congrArg (λz=>R.ok (V.a z) _) (by rw[jD d];exact b0));exact p_ m8 [.v _ _ (q (a+49)),.n,.o _ _ (r),.v _ _ (y (a+20)),.v _ _ (F (a+48)),.b _ _ (congrArg (λz=>!!z) (v)),.v _ _ (mq (B (a+43)) (x)),.o _ _ (C),.v _ _ (P (a+19)),.v _ _ (mq (W (a+47)) (O)),.v _ _ (T (a+48)),.b _ _ (congrArg (λz=>!!z) (N)),.b _ _ (congrArg (λz=>!z==0) (Q)),.v _ _ (U (a+44)),.b _ _ (congrArg (λz=>!z) (X)),.n] (by kernel_rfl)|false=>exact p_ m8 [.v _ _ (q (a+49)),.n,.o _ _ (r),.v _ _ (y (a+20)),.v _ _ (F (a+48)),.b _ _ (congrArg (λz=>!!z) (v)),.v _ _ (mq (B (a+43)) (x)),.o _ _ (C),.v _ _ (P (a+19)),.v _ _ (mq (W (a+47)) (O)),.v _ _ (T (a+48)),.b _ _ (congrArg (λz=>!!z) (N)),.b _ _ (congrArg (λz=>!z==0) (Q)),.v _ _ (U (a+44)),.b _ _ (congrArg (λz=>!z) (X)),.y] (by kernel_rfl)
theorem G1(d):(ae (d+1-d%2) 1==0)=ak:=congrArg (λa:Int=>a==0) ((gK _).trans ((congrArg (·%2) (Y [d] [] ⟨[1],[.m .a 2],[],.e (.s (.p .a .u) .c) (.p (.m 2 .b) .u)⟩:d+1-d%2=2*(d/2)+1)).trans (fE 2 (d/2) 1)))
theorem pK(d)(e:0<=d)(f:l9 d=I):Rs (a+16) 327 [.b 10,.a d] b c .g:=by
 unfold l9 at f;simp only[aJ,dZ,decide_eq_true_eq]at f;refine mj f λg h i=>?_;have j:=GH e;have k:d-d%1024=0:=by exact(Y [d] [] ⟨[1,2,3],[.m .a 1024],[.l .o .a,.t .a (.k 1024)],.e (.s .a .c) .o⟩) e g
 have l:=sO d;refine nk (x_ (a:=d) ⟨e,g⟩) λm n o p=>?_;have q:(ae (ai d 1) 1==0)=ak:=l.symm▸G1 d;have r:(ae (ai d 1) 6==4)=ak:=by rw[l,m];exact i
 have s:(ae d (br 1023)==0)=I:=by rw[j,k];rfl
 exact lq [.b _ _ (congrArg (λt=>!t) (s)),.v _ _ (@nG (a+4) ({σ:=St b,mu:=c}) (d)),.b _ _ (congrArg (λt=>!!t) (h)),.v _ _ (@x9 (a+3) ({σ:=St b,mu:=c}) (ai d 1)),.b _ _ (congrArg dF (tI (congrArg (λt=>!t) (q):(!ae (ai d 1) 1==0)=I) (congrArg (λt=>!t) (r):(!ae (ai d 1) 6==4)=I))),.n] (by kernel_rfl)
theorem yj(d)(e:0<=d)(f:l9 d=ak):Rz (a+16) 327 [.b 10,.a d] b c ⟨52,0⟩ b (c+1):=by
 unfold l9 at f;have g:=GH e;by_cases h:d<1024
 ·have i:d-d%1024=0:=by exact(Y [d] [] ⟨[1,2,3],[.m .a 1024],[.l .o .a,.t .a (.k 1024)],.e (.s .a .c) .o⟩) e h
  refine nk (x_ (a:=d) ⟨e,h⟩) λj k l m=>?_;have n:(ae (d+1-d%2) 1==0)=ak:=G1 d;rw[decide_eq_true h,jI]at f;cases o:ae d 10==0 with|true=>exact lq [.b _ _ (congrArg dF (m9 ((Y [ae d (br 1023),d] [] ⟨[1,2],[.m .b 1024],[.e .a (.s .b .d),.e (.s .b .d) .o],.e .a .o⟩) g i:ae d (br 1023)=0))),.v _ _ (@nG (a+4) ({σ:=St b,mu:=c}) (d)),.b _ _ (congrArg (λp=>!!p) (o)),.y,.y] (by kernel_rfl)|false=>
   have q:(ae (ai d 1) 1==0)=ak:=by rw[sO d];exact n
   have r:(ae (ai d 1) 6==4)=I:=by rw[sO d,j];rw[o]at f;simpa using f
   have s:(ae d (br 1023)==0)=I:=by rw[g,i];rfl
   exact lq [.b _ _ (congrArg (λp=>!p) (s)),.v _ _ (@nG (a+4) ({σ:=St b,mu:=c}) (d)),.b _ _ (congrArg (λp=>!!p) (o)),.v _ _ (@x9 (a+3) ({σ:=St b,mu:=c}) (ai d 1)),.b _ _ (congrArg dF (Qo (c:=!ae (ai d 1) 1==0) (congrArg (λp=>!p) (r):(!ae (ai d 1) 6==4)=ak))),.y,.y] (by kernel_rfl)
 ·have i:(d-d%1024==0)=ak:=by rw[beq_eq_false_iff_ne];exact(Y [d] [] ⟨[1,2,3],[.m .a 1024],[.N (.t .a (.k 1024))],.N (.e (.s .a .c) .o)⟩) h
  exact lq [.b _ _ (congrArg dF ((congrArg (λp=>p==0) g).trans i)),.y,.y] (by kernel_rfl)
end
end
section
section
variable(a:Nat)(b:Q)(c:Nat)
theorem RA(d)(e:256<=d):Rz (a+90) 306 [.b 10,.a 512,.a d] b c ⟨52,0⟩ b (c+1+1):=by exact lq [.v _ _ ((λa=>Bo a b c d e) (a+71))] (by kernel_rfl)
theorem RB(d)(e:0<=d)(f:d<256)(g:b.ws.length<=4096)(h:lI b.ws (128+d/64)=0):Rs (a+90) 306 [.b 10,.a 512,.a d] b c .g:=by exact lq [.v _ _ ((λa=>pj a b c d e f) (a+71)),.o _ _ ((mW (fA e f))),.v _ _ (pg c e f g h (a+75)),.y,.y] (by kernel_rfl)
theorem RC(d e f)(g:0<=d)(h:d<256)(i:b.ws.length<=4096)(j:lI b.ws (128+d/64)=lF (e,f))(k:oy e f):Rz (a+90) 306 [.b 10,.a 512,.a d] b c ⟨52,0⟩ b (c+1):=by refine oW (nX k) λl m n o p q r s t=>?_;exact lq [.v _ _ ((λa=>pj a b c d g h) (a+71)),.o _ _ ((mW (fA g h))),.v _ _ (pg c g h i j (a+75)),.b _ _ m,.v _ _ (@nG (a+79) ({σ:=St b,mu:=c}) (lF (e,f))),.b _ _ (congrArg dF n),.y] (by kernel_rfl)
theorem G2(d e)(f:0<=d)(g:d<256)(h:b.ws.length<=4096)(i:lI b.ws (128+d/64)=e*64+1)(j:0<=e/\e<=1000)(k:e%16=0):Rs (a+90) 306 [.b 10,.a 512,.a d] b c (.a (e+4*(d/16%4))):=by refine nc (rl (b:=e) (rr j k) k) λl m n o p=>?_;have q:=λa=>oF a b c (e*64+1) l;exact lq [.v _ _ ((λa=>pj a b c d f g) (a+71)),.o _ _ ((mW (fA f g))),.v _ _ (pg c f g h i (a+75)),.b _ _ m,.v _ _ (@nG (a+79) ({σ:=St b,mu:=c}) (e*64+1)),.b _ _ (congrArg dF n),.v _ _ (mq (q (a+76)) (p)),.o _ _ ((mW (sA (d/16))))] (by kernel_rfl)
theorem RD(d e)(f:0<=d)(g:d<256)(h:b.ws.length<=4096)(i:lI b.ws (128+d/64)=e*64+1)(j:0<=e/\e<=1000)(k:e%16=0):Rs (a+90) 306 [.b 10,.a 512,.a d,.h I] b c (.a (e+4*(d/16%4))):=by refine nc (rl (b:=e) (rr j k) k) λl m n o p=>?_;have q:=λa=>oF a b c (e*64+1) l;exact lq [.v _ _ ((λa=>pj a b c d f g) (a+71)),.o _ _ ((mW (fA f g))),.v _ _ (pg c f g h i (a+75)),.b _ _ m,.v _ _ (@nG (a+79) ({σ:=St b,mu:=c}) (e*64+1)),.b _ _ (congrArg dF n),.v _ _ (mq (q (a+76)) (p)),.o _ _ ((mW (sA (d/16))))] (by kernel_rfl)
theorem RE(d e)(f)(g)(h:0<=d)(i:d<256)(j:b.ws.length<=4096)(k:lI b.ws (128+d/64)=0)(l:0<=e/\e<=1000)(m:e%16=0)(n:f.ws.length<=4096)(o:∀a,Rq (a+70) 291 [.b 10] b c (.a e) f g):∃p,∀a,Rq (a+90) 306 [.b 10,.a 512,.a d,.h I] b c (.a (e+4*(d/16%4))) {f with ws:=lJ f.ws (128+d/64) (e*64+1)} p:=by
 refine lp (tL f g (512+4*(d/16/4)) (e*64+1) ((Y [d] [] ⟨[1,2,3],[.d .a 16,.d .b 4],[.l .o .a],.l .o (.p (.k 512) (.m 4 .c))⟩) h) ((Y [d] [] ⟨[1,2,3],[.d .a 16,.d .b 4],[.t .a (.k 256)],.l (.p (.p (.k 512) (.m 4 .c)) (.k 4)) (.k 1024)⟩) i) (Y [d] [] ⟨[5,1,2,3],[.d .a 16,.d .b 4,.m (.p (.k 512) (.m 4 .c)) 4],[],.e .e .o⟩) ((Y [e] [] ⟨[3,2,1],[.m .a 16],[.A (.l .o .a) (.l .a (.k 1000)),.e .c .o],.l .o (.p (.w .a 64) .u)⟩) l m) ((Y [e] [] ⟨[3,2,1],[.m .a 16],[.A (.l .o .a) (.l .a (.k 1000)),.e .c .o],.t (.p (.w .a 64) .u) (.k 4294967296)⟩) l m) n) λq r=>?_;have s:(512+4*(d/16/4))/4=128+d/64:=by exact wO
 rw[s]at r;refine mf q (λa=>?_);refine nc (rl (b:=e) (rr l m) m) λt u v w x=>?_;have y:=λa=>yf a f g e 1 ((Y [e] [] ⟨[3,2,1],[.m .a 16],[.A (.l .o .a) (.l .a (.k 1000)),.e .c .o],.A (.l .o .a) (.t .a (.k 1000000))⟩) l m) (by decide);have z:e/16*1024+1=e*64+1:=by exact(Y [e] [] ⟨[1,3],[.m .a 16],[.e .c .o],.e (.p (.w .b 1024) .u) (.p (.w .a 64) .u)⟩) m
 rw[z]at y;exact lq [.v _ _ ((λa=>pj a b c d h i) (a+71)),.o _ _ ((mW (fA h i))),.v _ _ (pg c h i j k (a+75)),.y,.n,.v _ _ (o (a+15)),.v _ _ (y (a+76)),.v _ _ (r (a+74)),.v _ _ (mq ((λa=>oF a {f with ws:=lJ f.ws (128+d/64) (e*64+1)} q (e*64+1) t) (a+76)) (x)),.o _ _ ((mW (sA (d/16))))] (by kernel_rfl)
theorem RF(d)(e)(f:0<=d)(g:d<256)(h:b.ws.length<=4096)(i:lI b.ws (128+d/64)=0)(j:∀a,Rz (a+70) 291 [.b 10] b c ⟨83,0⟩ b e):Rz (a+90) 306 [.b 10,.a 512,.a d,.h I] b c ⟨83,0⟩ b (e+1):=by exact lq [.v _ _ ((λa=>pj a b c d f g) (a+71)),.o _ _ ((mW (fA f g))),.v _ _ (pg c f g h i (a+75)),.y,.n,.v _ _ (j (a+15))] (by kernel_rfl)
theorem RH(d)(e:256<=d):Rz (a+30) 313 [.b 10,.a 512,.a d] b c ⟨52,0⟩ b (c+1+1):=by exact lq [.v _ _ ((λa=>Bo a b c d e) (a+11))] (by kernel_rfl)
theorem RI(d e f)(g:0<=f)(h:l9 f=ak):Rz (a+110) 334 [.b 10,.a 512,.a d,.a e,.a f] b c ⟨52,0⟩ b (c+1+1):=by exact lq [.v _ _ ((λa=>yj a b c f g h) (a+91))] (by kernel_rfl)
theorem RJ(d e f)(g:0<=f)(h:l9 f=I)(i:¬(d%16=0/\e%16=0)):Rz (a+110) 334 [.b 10,.a 512,.a d,.a e,.a f] b c ⟨52,0⟩ b (c+1):=by
 have j:=λa=>pK a b c f g h;by_cases k:d%16=0
 ·have l:(e%16==0)=ak:=by rw[beq_eq_false_iff_ne];exactλm=>i ⟨k,m⟩
  exact lq [.v _ _ (j (a+91)),.v _ _ (@ph (a+96) (b) (c) (d)),.b _ _ (congrArg dF (m9 (k:d%16=0))),.v _ _ (@ph (a+96) (b) (c) (e)),.b _ _ (congrArg dF (l)),.y,.y] (by kernel_rfl)
 ·have l:(d%16==0)=ak:=by rw[beq_eq_false_iff_ne];exact k
  exact lq [.v _ _ (j (a+91)),.v _ _ (@ph (a+96) (b) (c) (d)),.b _ _ (congrArg dF (l)),.y,.y] (by kernel_rfl)
theorem RK(d e f)(g:0<=f)(h:l9 f=I)(i:d%16=0)(j:e%16=0)(k:256<=d):Rz (a+110) 334 [.b 10,.a 512,.a d,.a e,.a f] b c ⟨52,0⟩ b (c+1+1+1):=by have l:=λa=>RH a b c d k;exact lq [.v _ _ ((λa=>pK a b c f g h) (a+91)),.v _ _ (@ph (a+96) (b) (c) (d)),.b _ _ (congrArg dF (m9 (i:d%16=0))),.v _ _ (@ph (a+96) (b) (c) (e)),.b _ _ (congrArg dF (m9 (j:e%16=0))),.n,.v _ _ (l (a+76))] (by kernel_rfl)
theorem RL(d e f g)(h:0<=f)(i:l9 f=I)(j:d%16=0)(k:e%16=0)(l:∀a,Rs (a+30) 313 [.b 10,.a 512,.a d] b c (.a g))(m:(g==0)=ak):Rz (a+110) 334 [.b 10,.a 512,.a d,.a e,.a f] b c ⟨52,0⟩ b (c+1):=by exact lq [.v _ _ ((λa=>pK a b c f h i) (a+91)),.v _ _ (@ph (a+96) (b) (c) (d)),.b _ _ (congrArg dF (m9 (j:d%16=0))),.v _ _ (@ph (a+96) (b) (c) (e)),.b _ _ (congrArg dF (m9 (k:e%16=0))),.n,.v _ _ (l (a+76)),.b _ _ (congrArg dF (m)),.y] (by kernel_rfl)
theorem RN(d e f)(g)(h:0<=f)(i:l9 f=I)(j:d%16=0)(k:e%16=0)(l:∀a,Rs (a+30) 313 [.b 10,.a 512,.a d] b c (.a 0))(m:∀a,Rz (a+90) 306 [.b 10,.a 512,.a d,.h I] b c ⟨83,0⟩ b g):Rz (a+110) 334 [.b 10,.a 512,.a d,.a e,.a f] b c ⟨83,0⟩ b (g+1):=by exact lq [.v _ _ ((λa=>pK a b c f h i) (a+91)),.v _ _ (@ph (a+96) (b) (c) (d)),.b _ _ (congrArg dF (m9 (j:d%16=0))),.v _ _ (@ph (a+96) (b) (c) (e)),.b _ _ (congrArg dF (m9 (k:e%16=0))),.n,.v _ _ (l (a+76)),.n,.v _ _ (m (a+16))] (by kernel_rfl)
theorem G3(d e f g)(h)(i)(j:0<=f)(k:l9 f=I)(l:d%16=0)(m:e%16=0)(n:0<=e/\e<4096)(o:∀a,Rs (a+30) 313 [.b 10,.a 512,.a d] b c (.a 0))(p:∀a,Rq (a+90) 306 [.b 10,.a 512,.a d,.h I] b c (.a g) h i)(q:0<=g/\g+4<=1024)(r:g%4=0)(s:h.ws.length<=4096):∃t,∀a,Rq (a+110) 334 [.b 10,.a 512,.a d,.a e,.a f] b c .g {h with ws:=lJ h.ws (g/4) (lF (e,ai f 1))} t:=by
 have u:0<=ai f 1/\ai f 1<1024:=by rw[sO];exact wP j (by unfold l9 at k;simp only[aJ,decide_eq_true_eq]at k;exact k.1:f<1024)
 refine lp (tL h i g (lF (e,ai f 1)) q.1 q.2 r ((Y [e,ai f 1] [] ⟨[2,1,3,4],[.m .a 16],[.e .d .o,.A (.l .o .a) (.t .a (.k 4096)),.A (.l .o .b) (.t .b (.k 1024))],.l .o (.p (.w .c 1024) .b)⟩) m n u) ((Y [e,ai f 1] [] ⟨[2,1,3,4],[.m .a 16],[.e .d .o,.A (.l .o .a) (.t .a (.k 4096)),.A (.l .o .b) (.t .b (.k 1024))],.t (.p (.w .c 1024) .b) (.k 4294967296)⟩) m n u) s) λv w=>?_;refine⟨v,λa=>?_⟩;exact lq [.v _ _ ((λa=>pK a b c f j k) (a+91)),.v _ _ (@ph (a+96) (b) (c) (d)),.b _ _ (congrArg dF (m9 (l:d%16=0))),.v _ _ (@ph (a+96) (b) (c) (e)),.b _ _ (congrArg dF (m9 (m:e%16=0))),.n,.v _ _ (o (a+76)),.n,.v _ _ (p (a+16)),.v _ _ ((λa=>yf a h i e (ai f 1) ((Y [e] [] ⟨[3,2,1],[.m .a 16],[.e .c .o,.A (.l .o .a) (.t .a (.k 4096))],.A (.l .o .a) (.t .a (.k 1000000))⟩) m n) u:∀a,Rs (a+10) 172 [.b 4,.a e,.a (ai f 1)] h i (.a (lF (e,ai f 1)))) (a+96)),.v _ _ (w (a+95))] (by kernel_rfl)
theorem RO(d e f)(g:0<=f)(h:l9 f=ak):Rz (a+110) 341 [.b 10,.a 512,.a d,.a e,.a f] b c ⟨52,0⟩ b (c+1+1):=by exact lq [.v _ _ ((λa=>yj a b c f g h) (a+91))] (by kernel_rfl)
theorem RP(d e f)(g:0<=f)(h:l9 f=I)(i:¬(d%64=0/\e%64=0)):Rz (a+110) 341 [.b 10,.a 512,.a d,.a e,.a f] b c ⟨52,0⟩ b (c+1):=by
 have j:=λa=>pK a b c f g h;by_cases k:d%64=0
 ·have l:(e%64==0)=ak:=by rw[beq_eq_false_iff_ne];exactλm=>i ⟨k,m⟩
  exact lq [.v _ _ (j (a+91)),.b _ _ (congrArg dF (m9 (k:d%64=0))),.b _ _ (congrArg dF (l)),.y,.y] (by kernel_rfl)
 ·have l:(d%64==0)=ak:=by rw[beq_eq_false_iff_ne];exact k
  exact lq [.v _ _ (j (a+91)),.b _ _ (congrArg dF (l)),.y,.y] (by kernel_rfl)
theorem RQ(d e f)(g:0<=f)(h:l9 f=I)(i:d%64=0)(j:e%64=0)(k:256<=d):Rz (a+110) 341 [.b 10,.a 512,.a d,.a e,.a f] b c ⟨52,0⟩ b (c+1+1):=by have l:=λa=>Bo a b c d k;exact lq [.v _ _ ((λa=>pK a b c f g h) (a+91)),.b _ _ (congrArg dF (m9 (i:d%64=0))),.b _ _ (congrArg dF (m9 (j:e%64=0))),.n,.v _ _ (l (a+88))] (by kernel_rfl)
theorem G4(d e f g)(h:0<=f)(i:l9 f=I)(j:d%64=0)(k:e%64=0)(l:0<=d)(m:d<256)(n:b.ws.length<=4096)(o:lI b.ws (128+d/64)=g)(p:(ae g 1==0)=ak):Rz (a+110) 341 [.b 10,.a 512,.a d,.a e,.a f] b c ⟨52,0⟩ b (c+1):=by have q:=λa=>pj a b c d l m;have r:=mW (fA l m);exact lq [.v _ _ ((λa=>pK a b c f h i) (a+91)),.b _ _ (congrArg dF (m9 (j:d%64=0))),.b _ _ (congrArg dF (m9 (k:e%64=0))),.n,.v _ _ (q (a+88)),.o _ _ (r),.v _ _ (pg c l m n o (a+93)),.b _ _ (congrArg dF (p)),.y] (by kernel_rfl)
theorem RR(d e f)(g:0<=f)(h:l9 f=I)(i:d%64=0)(j:e%64=0)(k:0<=d)(l:d<256)(m:0<=e/\e<4096)(n:b.ws.length<=4096)(o:lI b.ws (128+d/64)=0):∃p,∀a,Rq (a+110) 341 [.b 10,.a 512,.a d,.a e,.a f] b c .g {b with ws:=lJ b.ws (128+d/64) (lF (e,ai f 1))} p:=by
 have q:0<=ai f 1/\ai f 1<1024:=by rw[sO];exact wP g (by unfold l9 at h;simp only[aJ,decide_eq_true_eq]at h;exact h.1:f<1024)
 refine lp (tL b c (512+4*(d/16/4)) (lF (e,ai f 1)) ((Y [d] [] ⟨[2,4,5,1,3],[.m .a 64,.d .a 16,.d .d 4],[.e .c .o,.l .o .a],.l .o (.p (.k 512) (.m 4 .e))⟩) i k) ((Y [d] [] ⟨[2,4,5,1,3],[.m .a 64,.d .a 16,.d .d 4],[.e .c .o,.t .a (.k 256)],.l (.p (.p (.k 512) (.m 4 .e)) (.k 4)) (.k 1024)⟩) i l) ((Y [d] [] ⟨[1,3,7,2,4,5],[.m .a 64,.d .a 16,.d .d 4,.m (.p (.k 512) (.m 4 .e)) 4],[.e .c .o],.e .h .o⟩) i) ((Y [e,ai f 1] [] ⟨[3,2,5,1,4],[.m .a 64,.d .a 16],[.e .d .o,.A (.l .o .a) (.t .a (.k 4096)),.A (.l .o .b) (.t .b (.k 1024))],.l .o (.p (.w .e 1024) .b)⟩) j m q) ((Y [e,ai f 1] [] ⟨[3,2,5,1,4],[.m .a 64,.d .a 16],[.e .d .o,.A (.l .o .a) (.t .a (.k 4096)),.A (.l .o .b) (.t .b (.k 1024))],.t (.p (.w .e 1024) .b) (.k 4294967296)⟩) j m q) n) λr s=>?_;have t:(512+4*(d/16/4))/4=128+d/64:=by exact(Y [d] [] ⟨[1,3,2,4,5],[.m .a 64,.d .a 16,.d .d 4,.d (.p (.k 512) (.m 4 .e)) 4],[.e .c .o],.e .f (.p (.k 128) .b)⟩) i
 rw[t]at s;refine mf r (λa=>?_);exact lq [.v _ _ ((λa=>pK a b c f g h) (a+91)),.b _ _ (congrArg dF (m9 (i:d%64=0))),.b _ _ (congrArg dF (m9 (j:e%64=0))),.n,.v _ _ ((λa=>pj a b c d k l) (a+88)),.o _ _ ((mW (fA k l))),.v _ _ (pg c k l n o (a+93)),.n,.v _ _ ((λa=>yf a b c e (ai f 1) ((Y [e] [] ⟨[3,2,1],[.m .a 64],[.e .c .o,.A (.l .o .a) (.t .a (.k 4096))],.A (.l .o .a) (.t .a (.k 1000000))⟩) j m) q:∀a,Rs (a+10) 172 [.b 4,.a e,.a (ai f 1)] b c (.a (lF (e,ai f 1)))) (a+96)),.v _ _ (s (a+95))] (by kernel_rfl)
theorem G5(d)(e)(f)(g:∀a,Rz (a+90) 306 [.b 10,.a 512,.a d] b c e b f):Rz (a+100) 348 [.b 10,.a 512,.a d] b c e b (f+1):=by exact lq [.v _ _ (g (a+7))] (by kernel_rfl)
theorem RS(d)(e:∀a,Rs (a+90) 306 [.b 10,.a 512,.a d] b c .g):Rz (a+100) 348 [.b 10,.a 512,.a d] b c ⟨52,0⟩ b (c+1):=by exact lq [.v _ _ (e (a+7)),.y,.y,.y] (by kernel_rfl)
theorem RT(d e)(f:∀a,Rs (a+90) 306 [.b 10,.a 512,.a d] b c (.a e))(g:0<=e/\e+4<=1024)(h:e%4=0)(i:b.ws.length<=4096)(j:lI b.ws (e/4)=0):Rz (a+100) 348 [.b 10,.a 512,.a d] b c ⟨52,0⟩ b (c+1):=by exact lq [.v _ _ (f (a+7)),.n,.v _ _ (mq ((λa=>ri a b c e g.1 g.2 h i) (a+82)) (j)),.y,.y,.y] (by kernel_rfl)
theorem RU(d e)(f:∀a,Rs (a+90) 306 [.b 10,.a 512,.a d] b c (.a e))(g:0<=e/\e+4<=1024)(h:e%4=0)(i:b.ws.length<=4096)(j:(ae (lI b.ws (e/4)) 1==0)=ak):Rs (a+100) 348 [.b 10,.a 512,.a d] b c (.a e):=by exact lq [.v _ _ (f (a+7)),.n,.v _ _ ((λa=>ri a b c e g.1 g.2 h i) (a+82)),.b _ _ (j),.n] (by kernel_rfl)
theorem RV(d e)(f:d-d%16=e)(g)(h:∀a,Rz (a+100) 348 [.b 10,.a 512,.a e] b c ⟨52,0⟩ b g):Rz (a+110) 355 [.b 10,.a 512,.a d] b c ⟨52,0⟩ b (g+1):=by exact lq [.v _ _ (mq (@tM (a+98) (b) (c) (d)) (f)),.v _ _ (h (a+7))] (by kernel_rfl)
theorem RW(d e f g h)(i:d-d%16=e)(j:∀a,Rs (a+100) 348 [.b 10,.a 512,.a e] b c (.a f))(k:0<=f/\f+4<=1024)(l:f%4=0)(m:b.ws.length<=4096)(n:lI b.ws (f/4)=lF (g,h))(o:oy g h):∃p,∀a,Rq (a+110) 355 [.b 10,.a 512,.a d] b c (.a g) {b with ws:=lJ b.ws (f/4) 0} p:=by refine lp (tL b c f 0 k.1 k.2 l (by decide) (by decide) m) λq r=>?_;refine mf q (λa=>?_);have s:=λa=>ri a b c f k.1 k.2 l m;refine oW (nX o) λt u v w x y z A B=>?_;exact lq [.v _ _ (mq (@tM (a+98) (b) (c) (d)) (i)),.v _ _ (j (a+7)),.v _ _ (mq (s (a+94)) (n)),.v _ _ (mq ((λa=>oF a b c (lF (g,h)) t) (a+97)) (y)),.v _ _ (r (a+95))] (by kernel_rfl)
theorem RX(d e f)(g:0<=f)(h:l9 f=ak):Rz (a+110) 370 [.b 10,.a 512,.a d,.a e,.a f] b c ⟨52,0⟩ b (c+1+1):=by exact lq [.v _ _ ((λa=>yj a b c f g h) (a+91))] (by kernel_rfl)
theorem RY(d e f)(g:0<=f)(h:l9 f=I)(i:¬e%16=0):Rz (a+110) 370 [.b 10,.a 512,.a d,.a e,.a f] b c ⟨52,0⟩ b (c+1):=by exact lq [.v _ _ ((λa=>pK a b c f g h) (a+91)),.v _ _ (@ph (a+97) (b) (c) (e)),.b _ _ (congrArg dF ((by rw[beq_eq_false_iff_ne];exact i:(e%16==0)=ak))),.y] (by kernel_rfl)
theorem RZ(d e f g)(h:0<=g)(i:l9 g=I)(j:f%16=0)(k:d-d%16=e)(l)(m:∀a,Rz (a+100) 348 [.b 10,.a 512,.a e] b c ⟨52,0⟩ b l):Rz (a+110) 370 [.b 10,.a 512,.a d,.a f,.a g] b c ⟨52,0⟩ b (l+1):=by exact lq [.v _ _ ((λa=>pK a b c g h i) (a+91)),.v _ _ (@ph (a+97) (b) (c) (f)),.b _ _ (congrArg dF (m9 (j:f%16=0))),.v _ _ (mq (@tM (a+98) (b) (c) (d)) (k)),.v _ _ (m (a+7))] (by kernel_rfl)
theorem R0(d e f g h i j)(k:0<=h)(l:l9 h=I)(m:g%16=0)(n:0<=g/\g<4096)(o:d-d%16=e)(p:∀a,Rs (a+100) 348 [.b 10,.a 512,.a e] b c (.a f))(q:0<=f/\f+4<=1024)(r:f%4=0)(s:b.ws.length<=4096)(t:lI b.ws (f/4)=lF (i,j))(u:oy i j):∃v,∀a,Rq (a+110) 370 [.b 10,.a 512,.a d,.a g,.a h] b c (.a i) {b with ws:=lJ b.ws (f/4) (lF (g,ai h 1))} v:=by
 have w:0<=ai h 1/\ai h 1<1024:=by rw[sO];exact wP k (by unfold l9 at l;simp only[aJ,decide_eq_true_eq]at l;exact l.1:h<1024)
 refine lp (tL b c f (lF (g,ai h 1)) q.1 q.2 r ((Y [g,ai h 1] [] ⟨[2,1,3,4],[.m .a 16],[.e .d .o,.A (.l .o .a) (.t .a (.k 4096)),.A (.l .o .b) (.t .b (.k 1024))],.l .o (.p (.w .c 1024) .b)⟩) m n w) ((Y [g,ai h 1] [] ⟨[2,1,3,4],[.m .a 16],[.e .d .o,.A (.l .o .a) (.t .a (.k 4096)),.A (.l .o .b) (.t .b (.k 1024))],.t (.p (.w .c 1024) .b) (.k 4294967296)⟩) m n w) s) λx y=>?_;refine⟨x,λa=>?_⟩;refine oW (nX u) λz A B C E F G H J=>?_;exact lq [.v _ _ ((λa=>pK a b c h k l) (a+91)),.v _ _ (@ph (a+97) (b) (c) (g)),.b _ _ (congrArg dF (m9 (m:g%16=0))),.v _ _ (mq (@tM (a+98) (b) (c) (d)) (o)),.v _ _ (p (a+7)),.v _ _ (mq ((λa=>ri a b c f q.1 q.2 r s) (a+94)) (t)),.v _ _ (mq ((λa=>oF a b c (lF (i,j)) z) (a+97)) (F)),.v _ _ ((λa=>yf a b c g (ai h 1) ((Y [g] [] ⟨[3,2,1],[.m .a 16],[.e .c .o,.A (.l .o .a) (.t .a (.k 4096))],.A (.l .o .a) (.t .a (.k 1000000))⟩) m n) w:∀a,Rs (a+10) 172 [.b 4,.a g,.a (ai h 1)] b c (.a (lF (g,ai h 1)))) (a+96)),.v _ _ (y (a+95))] (by kernel_rfl)
theorem G6(a:0<=d/\d<1024):l9 (d-d%2)=l9 d:=by refine nk (x_ (a:=d) a) λb c e f=>?_;unfold l9;rw[e,f,decide_eq_true (by exact(Y [d] [] ⟨[1,2,3],[.m .a 2],[.A (.l .o .a) (.t .a (.k 1024))],.t (.s .a .c) (.k 1024)⟩) a:d-d%2<1024),decide_eq_true a.2]
noncomputable def lZ(a b c:Int):Int:=ai (ae a (1023-b)) c
theorem R1(a:d∈[0,2,4,256,1,(10:Int)]):0<=d/\d<1024:=by simp only[cy,bY,or_false]at a;exact(Y [d] [] ⟨[1],[],[.O (.e .a .o) (.O (.e .a (.k 2)) (.O (.e .a (.k 4)) (.O (.e .a (.k 256)) (.O (.e .a .u) (.e .a (.k 10))))))],.A (.l .o .a) (.t .a (.k 1024))⟩) a
theorem R2(a:d∈[4,128,256,16,0,(2:Int)]):0<=d/\d<1024:=by simp only[cy,bY,or_false]at a;exact(Y [d] [] ⟨[1],[],[.O (.e .a (.k 4)) (.O (.e .a (.k 128)) (.O (.e .a (.k 256)) (.O (.e .a (.k 16)) (.O (.e .a .o) (.e .a (.k 2))))))],.A (.l .o .a) (.t .a (.k 1024))⟩) a
theorem Bq(d e f g)(a:oy d e)(b:f∈[0,2,4,256,1,(10:Int)])(c:g∈[4,128,256,16,0,(2:Int)]):ae f 1023=f/\ae g 1023=g/\ai (ae (lF (d,e)) (br f)) g=d/16*1024+lZ e f g/\(0<=lZ e f g/\lZ e f g<1024)/\ae (d/16*1024+lZ e f g) 1023=lZ e f g/\ai (d/16*1024+lZ e f g) 1=lF (d,ai (lZ e f g) 1):=by
 refine gz λh i=>?_;obtain⟨j,k,l,m,n,o⟩:=a;have p:=R1 b;have q:=R2 c;refine mj (Q8 l b) λr s t=>?_;refine i ?_;have u:0<=lZ e f g/\lZ e f g<1024:=Q9 (a:=ae e (1023-f)) ⟨s,t⟩ c;refine yS ?_ ?_ ?_ u ?_ ?_;·exact(we p.1)▸((Y [f] [] ⟨[1,2,3],[.m .a 1024],[.A (.l .o .a) (.t .a (.k 1024))],.e .c .a⟩) p)
 ·exact(we q.1)▸((Y [g] [] ⟨[1,2,3],[.m .a 1024],[.A (.l .o .a) (.t .a (.k 1024))],.e .c .a⟩) q)
 ·delta lF lZ;dsimp only;rw[iU,sN (by exact s6 j k) l p];have:d/16*1024+e-ae e f=d/16*1024+ae e (1023-f):=by exact(Y [e,ae e f,ae e (1023-f),d] [] ⟨[1],[.d .d 16],[.e (.s .a .b) .c],.e (.s (.p (.w .e 1024) .a) .b) (.p (.w .e 1024) .c)⟩) r
  exact this▸(GD (by exact s6 j k) ⟨s,t⟩ q)
 ·have:0<=lZ e f g/\lZ e f g<1024:=u;refine ah (we (by exact(Y [d,lZ e f g] [] ⟨[2,1,3,4],[.m .a 16],[.A (.l .o .a) (.t .a (.k 4096)),.e .d .o,.A (.l .o .b) (.t .b (.k 1024))],.l .o (.p (.w .c 1024) .b)⟩) j k u)) ?_;exact(Y [lZ e f g,d] [] ⟨[1,2,3,5],[.d .b 16,.m (.p (.w .c 1024) .a) 1024],[.A (.l .o .a) (.t .a (.k 1024))],.e .e .a⟩) u
 ·refine ah (GD (f:=1) (by exact s6 j k) u (by decide)) ?_;rfl
theorem R3(d e f g)(h:d-d%16=e)(i)(j:∀a,Rz (a+100) 348 [.b 10,.a 512,.a e] b c ⟨52,0⟩ b i):Rz (a+110) 363 [.b 10,.a 512,.a d,.a f,.a g] b c ⟨52,0⟩ b (i+1):=by exact lq [.v _ _ (mq (@tM (a+98) (b) (c) (d)) (h)),.v _ _ (j (a+7))] (by kernel_rfl)
theorem R4(d e f g h i j)(k:d-d%16=e)(l:∀a,Rs (a+100) 348 [.b 10,.a 512,.a e] b c (.a h))(m:0<=h/\h+4<=1024)(n:h%4=0)(o:b.ws.length<=4096)(p:lI b.ws (h/4)=lF (i,j))(q:oy i j)(r:g∈[0,2,4,256,1,(10:Int)])(s:f∈[4,128,256,16,0,(2:Int)])(t:l9 (lZ j g f)=ak):Rz (a+110) 363 [.b 10,.a 512,.a d,.a f,.a g] b c ⟨52,0⟩ b (c+1+1):=by
 refine sX (Bq i j g f q r s) λu v w x y z=>?_;have A:(ai (ae (lF (i,j)) (br (ae g 1023))) (ae f 1023))=i/16*1024+lZ j g f:=by exact u.symm▸v.symm▸w
 have B:ae (ae (ai (ae (lF (i,j)) (br (ae g 1023))) (ae f 1023)) 1023) (br 1)=lZ j g f-lZ j g f%2:=by rw[A,y,GG]
 exact p_ m8 [.v _ _ (mq (@tM (a+98) b c d) k),.v _ _ (l (a+7)),.v _ _ (mq (ri (a+93) b c h m.1 m.2 n o) p),.v _ _ ((congrArg (λC=>(kX lj (a+107)).l 327 [.b 10,.a C] ⟨St b,c⟩) B).trans (yj (a+91) b c (lZ j g f-lZ j g f%2) ((Y [lZ j g f] [] ⟨[1,2,3],[.m .a 2],[.A (.l .o .a) (.t .a (.k 1024))],.l .o (.s .a .c)⟩) x) (by refine ah (G6 x) ?_;exact t)))] (by kernel_rfl)
theorem R5(d e f g h i j)(k:d-d%16=e)(l:∀a,Rs (a+100) 348 [.b 10,.a 512,.a e] b c (.a h))(m:0<=h/\h+4<=1024)(n:h%4=0)(o:b.ws.length<=4096)(p:lI b.ws (h/4)=lF (i,j))(q:oy i j)(r:g∈[0,2,4,256,1,(10:Int)])(s:f∈[4,128,256,16,0,(2:Int)])(t:l9 (lZ j g f)=I):∃u,∀a,Rq (a+110) 363 [.b 10,.a 512,.a d,.a f,.a g] b c (.a (lF (i,ai (lZ j g f) 1))) {b with ws:=lJ b.ws (h/4) (lF (i,ai (lZ j g f) 1))} u:=by
 refine sX (Bq i j g f q r s) λv w x y z A=>?_;have B:=q.1;have C:=sO (lZ j g f);refine lp (tL b c h (lF (i,ai (lZ j g f) 1)) m.1 m.2 n ((Y [lZ j g f,i,ai (lZ j g f) 1] [] ⟨[1,3,4,5,6,2],[.m .a 2,.d .b 16],[.A (.l .o .a) (.t .a (.k 1024)),.A (.l .o .b) (.t .b (.k 4096)),.e .c (.s (.p .a .u) .e)],.l .o (.p (.w .f 1024) .c)⟩) y B C) ((Y [lZ j g f,i,ai (lZ j g f) 1] [] ⟨[1,3,4,5,6,2],[.m .a 2,.d .b 16],[.A (.l .o .a) (.t .a (.k 1024)),.A (.l .o .b) (.t .b (.k 4096)),.e .c (.s (.p .a .u) .e)],.t (.p (.w .f 1024) .c) (.k 4294967296)⟩) y B C) o) λE F=>?_;have G:(ai (ae (lF (i,j)) (br (ae g 1023))) (ae f 1023))=i/16*1024+lZ j g f:=by refine v.symm▸?_;exact w.symm▸x
 have H:ai (ai (ae (lF (i,j)) (br (ae g 1023))) (ae f 1023)) 1=lF (i,ai (lZ j g f) 1):=by exact G▸A
 refine mf E (λa=>?_);exact(p_ m8 [.v _ _ (mq (@tM (a+98) b c d) k),.v _ _ (l (a+7)),.v _ _ (mq (ri (a+93) b c h m.1 m.2 n o) p),.v _ _ ((congrArg (λJ=>(kX lj (a+107)).l 327 [.b 10,.a J] ⟨St b,c⟩) (by rw[G,z,GG]:ae (ae (ai (ae (lF (i,j)) (br (ae g 1023))) (ae f 1023)) 1023) (br 1)=lZ j g f-lZ j g f%2)).trans (pK (a+91) b c (lZ j g f-lZ j g f%2) ((Y [lZ j g f] [] ⟨[1,2,3],[.m .a 2],[.A (.l .o .a) (.t .a (.k 1024))],.l .o (.s .a .c)⟩) y) (by refine(G6 y)▸?_;exact t))),.v _ _ ((congrArg (λJ=>(kX lj (a+107)).l 487 [.b 1,.a h,.a J] ⟨St b,c⟩) H).trans (F (a+95)))] (by kernel_rfl)).trans (congrArg (λJ=>R.ok (V.a J) ⟨St {b with ws:=lJ b.ws (h/4) (lF (i,ai (lZ j g f) 1))},E⟩) H)
end
end
section
theorem uX{a:Type}{b}(c:a->V)(d:a->Ro->Ro)(e:∀f g,mJ h (c f) g=Z (d f g))(i:Ro->Prop)(j:a->List V):∀(k:List a)(g:Ro)(l:List V),i g->kZ m g=Z (.b l)->l.length+4*k.length<=100->(∀f∈k,(j f).length<=4)->(∀f∈k,∀g l,i g->kZ m g=Z (.b l)->l.length<=100->∃n o,lH b p (d f g) q=.ok (n,o) q/\(o=.a\/o=.e)/\i n/\kZ m n=Z (.b (l++j f)))->∃n,mT b h p (k.map c) g q=.ok (n,.a) q/\i n/\kZ m n=Z (.b (l++k.flatMap j)):=by intro r;induction r with|nil=>intro g l s t _ _ _;exact pQ (g) rfl s (by refine List.flatMap_nil.symm▸?_;rw[cU];exact t)|cons f k u=>intro g l s t v w x;refine sY (x f (aw ..) g l s t ((Y [] [l.length,k.length] ⟨[2,1],[],[.L (.p .a (.m 4 (.p .b .u))) (.k 100)],.L .a (.k 100)⟩) v)) λy o z A B C=>?_;refine mQ (u y (l++j f) B C (by refine aW▸?_;exact(Y [] [l.length,k.length,(j f).length] ⟨[1,2,3],[],[.L (.p .a (.m 4 (.p .b .u))) (.k 100),.L .c (.k 4)],.L (.p (.p .a .c) (.m 4 .b)) (.k 100)⟩) v (w f (aw ..))) (λE F=>w E (aq _ F)) (λE F=>x E (aq _ F))) λG H J L=>?_;refine pQ (G) ?_ J (by rw[dv,←bP];exact L);refine dr▸?_;rw[QI,e,QJ,nF,z];dsimp only;rcases A with rfl|rfl<;>exact H
theorem R6{a:Type}{b}(c:a->V)(d:a->Ro->Ro)(e:∀f g,mJ h (c f) g=Z (d f g))(i:a->Bool)(j:a->V):∀k:List a,(∀f∈k,oZ b (d f g) l m=.ok (i f) m)->(∀f∈k,i f=I->b.ev (d f g) n m=.ok (j f) m)->n8 b g h n l (k.map c) m=.ok ((k.filter i).map j) m:=by intro o;induction o with|nil=>intro _ _;exact rfl|cons f k p=>intro q r;have s:=p (λt u=>q t (aq _ u)) (λt u=>r t (aq _ u));show M.lG (mJ h (c f) g) _ m=_;rw[e];show M.bind _ _ m=_;rw[nF];rw[(by unfold qz;rw[(q f (aw ..))];exact if_pos rfl:qz (oZ b (d f g) l) m=.ok (i f) m)];dsimp only;refine cq▸?_;cases v:i f with|false=>exact s|true=>show M.bind (qz (b.ev (d f g) n)) (λj=>M.bind (n8 b g h n l (k.map c)) λw=>M.pure (j::w)) m=_;rw[nF,(by unfold qz;rw[(r f (aw ..) v)];exact if_pos rfl:qz (b.ev (d f g) n) m=.ok (j f) m)];dsimp only;rw[nF,s];rfl
theorem yk{a:Type}{b c}(d:a->V)(e:a->Ro->Ro)(f:∀g h,mJ i (d g) h=Z (e g h))(j:a->Bool)(k:a->V)(l:List a)(m:lS (kX lj b) h I c n o=.ok (l.map d) o)(p:l.length<=4096)(q:∀g∈l,oZ (kX lj b) (e g h) r o=.ok (j g) o)(s:∀g∈l,j g=I->(kX lj b).ev (e g h) t o=.ok (k g) o):(kX lj (b+1)).ev h (.lc t i c n r) o=.ok (.c ((l.filter j).map k)) o:=(M.lO m).trans ((M.lO (R6 d e f j k l q s)).trans (congrFun (if_pos (Bool.and_eq_true_iff.mpr ⟨decide_eq_true (ao (bV (ay _)) (ao (bp ..) p)),decide_eq_true (ao (bV (ay _)) (ao p (by decide)))⟩)) o))
theorem pL{a:Type}(b:a->V)(c:a->Ro->Ro)(d:∀e f,mJ g (b e) f=Z (c e f))(h:a->V)(i:List a)(j:lS (kX lj k) f I l m n=.ok (i.map b) n)(o:i.length<=4096)(p:∀e∈i,(kX lj k).ev (c e f) q n=.ok (h e) n):(kX lj (k+1)).ev f (.lc q g l m []) n=.ok (.c (i.map h)) n:=(yk b c d (λ_=>I) h i j o (λ_ _=>rfl) λe r _=>p e r).trans (congrArg (λs=>R.ok (V.c (b9 h s)) n) (List.filter_eq_self.mpr λ_ _=>rfl))
noncomputable def l8:List Int:=[0,1,2,3]
theorem wg{a}(b)(c)(d:a.ev e c f=.ok (.a 4) f):lS a e b 1 [c] f=.ok (l8.map .a) f:=by rw[QK,nF,xX,nF,d];rfl
inductive rW where|n|b(p fl:Int)|t(a:Int)
noncomputable def G7(a:List (Int×Int))(b:Int):rW->Prop|.n=>lI a (128+b)=0|.b c d=>lI a (128+b)=lF (c,d)/\oy c d/\c%64=0|.t e=>lI a (128+b)=e*64+1/\(0<=e/\e<=1000)/\e%16=0
noncomputable def yl(a:List (Int×Int))(b:Int->Option (Int×Int))(c:Int):Prop:=∀d,0<=d->d<4->lI a (c/4+d)=pI (b d)/\yh (b d)
noncomputable def lW(a:Int×Int×Int×Int):V:=.e [.a a.1,.a a.2.1,.a a.2.2.1,.a a.2.2.2]
noncomputable def nQ(a:Int)(b:Int->Option (Int×Int)):List (Int×Int×Int×Int):=l8.flatMap λc=>match b c with|some d=>[((a*4+c)*16,d.1,d.2,16)]|D=>[]
theorem pM(a:b∈l8):0<=b/\b<4:=by simp only[l8,cy,bY,or_false]at a;exact(Y [b] [] ⟨[1],[],[.O (.e .a .o) (.O (.e .a .u) (.O (.e .a (.k 2)) (.e .a (.k 3))))],.A (.l .o .a) (.t .a (.k 4))⟩) a
noncomputable def mv(a:Int×Int):V:=.e [.a a.1,.a a.2]
section
variable(a:Q)(b:Nat)
theorem G8(c d)(e:Int->Option (Int×Int))(f:0<=c/\c<4)(g:0<=d/\d<=1000)(h:d%16=0)(i:a.ws.length<=4096)(j:yl a.ws e d)(k):Rs (k+40) 391 [.b 10,.a d,.a c] a b (.c ((nQ c e).map lW)):=by
 obtain⟨l,m,n,o⟩:=uX (b:=kX lj (k+38)) (h:=.inl 61) (p:=fb 1 (nM 391)) (q:=⟨St a,b⟩) (m:=45) V.a (λp q=>k9 61 (.a (.a p)) q) (λ_ _=>rfl) (λq=>kZ 53 q=Z (.a (.b 10))/\kZ 34 q=Z (.a (.a d))/\kZ 33 q=Z (.a (.a c))) (λr=>match e r with|some s=>[lW ((c*4+r)*16,s.1,s.2,16)]|D=>[]) l8 [(53,.a (.b 10)),(34,.a (.a d)),(33,.a (.a c)),(45,.b [])] [] ⟨rfl,rfl,rfl⟩ rfl (by decide) (by intro r _;cases e r<;>simp) (by
  rintro r t q u⟨v,w,x⟩y z;refine lA (pM t) λA B=>?_;refine lA (j r A B) λC E=>?_;have F:=mW ⟨A,B⟩;have G:u.length<=4096:=by exact lk z rfl
  cases H:e r with|none=>
   have J:lI a.ws (d/4+r)=0:=by refine ah C ?_;refine H▸?_;rfl
   refine oU (i:=[(53,.a (.b 10)),(34,.a (.a d)),(33,.a (.a c)),(45,.b u)]) (ot (GW.lu.k9 (la y (la x (la w (la v lD)))) (61) (LV.a (V.a r))) [.o _ _ (F),.v _ _ (rk b g h ⟨A,B⟩ i J (k+24)),.n] (by kernel_rfl)) λl L=>⟨⟨L 53 _ rfl,L 34 _ rfl,L 33 _ rfl⟩,(L 45 _ rfl).trans (v9 u)⟩|some s=>obtain⟨M,N⟩:=s;rw[H]at E;refine oW (nX (b:=M) (c:=N) E) λO P Q R S T U a0 a3=>?_;refine oU (i:=[(53,.a (.b 10)),(34,.a (.a d)),(33,.a (.a c)),(45,.b (u++[lW ((c*4+r)*16,M,ae (lF (M,N)) 1023,16)]))]) (ot (GW.lu.k9 (la y (la x (la w (la v lD)))) (61) (LV.a (V.a r))) [.o _ _ (F),.v _ _ (rk b g h ⟨A,B⟩ i (by refine C▸?_;refine H▸?_;rfl:lI a.ws (d/4+r)=lF (M,N)) (k+24)),.b _ _ (congrArg (λW=>!W) (P)),.v _ _ ((λk=>ye k a b c r f ⟨A,B⟩) (k+25)),.v _ _ (mq ((λk=>oF k a b (lF (M,N)) O) (k+24)) (T)),.b _ _ (mG (G:u.length<=4096))] (by kernel_rfl)) λl L=>⟨⟨L 53 _ rfl,L 34 _ rfl,L 33 _ rfl⟩,(L 45 _ rfl).trans (by rw[S])⟩);have X:(l8.flatMap λr=>match e r with|some s=>[lW ((c*4+r)*16,s.1,s.2,16)]|D=>[])=(nQ c e).map lW:=by unfold nQ;refine ah ?_ List.map_flatMap.symm;congr 1;funext r;cases e r<;>rfl
 rw[X]at o;exact lq [.s _ _ _ _ _ (qa lj ((wg ak _ (l7 m8 [] (by kernel_rfl)):lS (kX lj (k+38)) [(53,.a (.b 10)),(34,.a (.a d)),(33,.a (.a c)),(45,.b [])] ak 1 [.q (.q (.b 53) 66) 59] ⟨St a,b⟩=_)) (m)) (la o lD)] (by kernel_rfl)
end
end
section
theorem R7{a b:Type}{c:a->List b}(d:∀e,(c e).length<=1)(f:List a):(f.flatMap c).length<=f.length:=by induction f with|nil=>exact al _|cons e f g=>refine dv▸?_;refine aW▸?_;rw[bE,Nat.add_comm];exact fw g (d e)
theorem G9(a)(b:Int->Option (Int×Int)):(nQ a b).length<=4:=R7 (λc=>by cases b c with|none=>exact bv _|some d=>exact al _) l8
noncomputable def wh(a:Int)(b:rW)(c:Int->Option (Int×Int)):List (Int×Int×Int×Int):=match b with|.n=>[]|.b d e=>[((a*4+0)*16,d,e,64)]|.t _=>nQ a c
noncomputable def wj(a:Int)(b:rW):List (Int×Int):=match b with|.t c=>[(a,c)]|_=>[]
noncomputable def qc(a:Option (Int×Int)):Bool:=a.isSome
noncomputable def pN(a:Int)(b:rW)(c:Int->Option (Int×Int)):List (Int×Int):=match b with|.n=>[]|.b d e=>[((a*4+0)*16,512+4*a)]|.t f=>(l8.filter λg=>qc (c g)).map λg=>((a*4+g)*16,f+4*g)
noncomputable def ym(a:List (Int×Int))(b:Int->rW)(c:Int->Int->Option (Int×Int)):Prop:=∀d,0<=d->d<4->G7 a d (b d)/\∀e,b d=.t e->yl a (c d) e
section
variable(a:Q)(b:Nat)(d:Int->rW)(c:Int->Int->Option (Int×Int))
theorem Br(e:a.ws.length<=4096)(f:ym a.ws d c)(g):Rs (g+40) 377 [.b 10,.a 512] a b (.c ((l8.flatMap λh=>wj h (d h)).map mv)):=by
 obtain⟨i,j,k,l⟩:=uX (b:=kX lj (g+38)) (h:=.inl 33) (p:=fb 1 (nM 377)) (q:=⟨St a,b⟩) (m:=45) V.a (λm n=>k9 33 (.a (.a m)) n) (λ_ _=>rfl) (λn=>kZ 53 n=Z (.a (.b 10))/\kZ 35 n=Z (.a (.a 512))) (λh=>(wj h (d h)).map mv) l8 [(53,.a (.b 10)),(35,.a (.a 512)),(45,.b [])] [] ⟨rfl,rfl⟩ rfl (by decide) (by
  intro o _;induction d o with|t p=>exact cM (bv _)|_=>exact bv _) (by
  rintro h q n r⟨s,t⟩u v;obtain⟨w,x⟩:=pM q;obtain⟨y,_⟩:=f h w x;have z:=mW ⟨w,x⟩;have A:r.length<=4096:=by exact lk v rfl
  cases B:d h with
  |n=>have C:lI a.ws (128+h)=0:=by rw[B]at y;exact y
      refine oU (i:=[(53,.a (.b 10)),(35,.a (.a 512)),(45,.b r)]) (ot (GW.lu.k9 (la u (la t (la s lD))) (33) (LV.a (V.a h))) [.o _ _ (z),.v _ _ (rj b ⟨w,x⟩ e C (g+24)),.n,.n] (by kernel_rfl)) λi E=>⟨⟨E 53 _ rfl,E 35 _ rfl⟩,(E 45 _ rfl).trans (v9 r)⟩|b F G=>rw[B]at y;obtain⟨C,H,J⟩:=y;refine oW (nX (b:=F) (c:=G) H) λL M N O P Q R S T=>?_;refine oU (i:=[(53,.a (.b 10)),(35,.a (.a 512)),(45,.b r)]) (ot (GW.lu.k9 (la u (la t (la s lD))) (33) (LV.a (V.a h))) [.o _ _ (z),.v _ _ (rj b ⟨w,x⟩ e C (g+24)),.b _ _ (congrArg (λU=>!U) (M)),.v _ _ (@nG (g+27) ({σ:=St a,mu:=b}) (lF (F,G))),.b _ _ (congrArg (λU=>!!U) (N)),.n] (by kernel_rfl)) λi E=>⟨⟨E 53 _ rfl,E 35 _ rfl⟩,(E 45 _ rfl).trans (v9 r)⟩|t p=>rw[B]at y;obtain⟨C,W,X⟩:=y;refine nc (rl (b:=p) (rr W X) X) λL M N O P=>?_;refine oU (i:=[(53,.a (.b 10)),(35,.a (.a 512)),(45,.b (r++(wj h (.t p)).map mv))]) (ot (GW.lu.k9 (la u (la t (la s lD))) (33) (LV.a (V.a h))) [.o _ _ (z),.v _ _ (rj b ⟨w,x⟩ e C (g+24)),.b _ _ (congrArg (λU=>!U) (M)),.v _ _ (@nG (g+27) ({σ:=St a,mu:=b}) (p*64+1)),.b _ _ (congrArg (λU=>!!U) (N)),.y,.v _ _ (mq ((λg=>oF g a b (p*64+1) L) (g+24)) (P)),.b _ _ (mG (A:r.length<=4096))] (by kernel_rfl)) λi E=>⟨⟨E 53 _ rfl,E 35 _ rfl⟩,E 45 _ rfl⟩);rw[←eD]at l;exact lq [.s _ _ _ _ _ (qa lj ((wg ak _ (l7 m8 [] (by kernel_rfl)):lS (kX lj (g+38)) [(53,.a (.b 10)),(35,.a (.a 512)),(45,.b [])] ak 1 [.q (.q (.b 53) 66) 59] ⟨St a,b⟩=_)) (j)) (la l lD)] (by kernel_rfl)
theorem R8(e:a.ws.length<=4096)(f:ym a.ws d c)(g):Rs (g+50) 384 [.b 10,.a 512] a b (.c ((l8.flatMap λh=>wh h (d h) (c h)).map lW)):=by
 obtain⟨i,j,k,l⟩:=uX (b:=kX lj (g+48)) (h:=.inl 33) (p:=fb 1 (nM 384)) (q:=⟨St a,b⟩) (m:=45) V.a (λm n=>k9 33 (.a (.a m)) n) (λ_ _=>rfl) (λn=>kZ 53 n=Z (.a (.b 10))/\kZ 35 n=Z (.a (.a 512))) (λh=>(wh h (d h) (c h)).map lW) l8 [(53,.a (.b 10)),(35,.a (.a 512)),(45,.b [])] [] ⟨rfl,rfl⟩ rfl (by decide) (by
  intro o _;induction d o with|t p=>exact ao (bV (ay _)) (G9 o (c o))|b q r=>exact cM (bv _)|n=>exact bv _) (by
  rintro h s n t⟨u,v⟩w x;obtain⟨y,z⟩:=pM s;obtain⟨A,B⟩:=f h y z;have C:=mW ⟨y,z⟩;have E:t.length<=4096:=by exact lk x rfl
  cases F:d h with
  |n=>have G:lI a.ws (128+h)=0:=by rw[F]at A;exact A
      refine oU (i:=[(53,.a (.b 10)),(35,.a (.a 512)),(45,.b t)]) (ot (GW.lu.k9 (la w (la v (la u lD))) (33) (LV.a (V.a h))) [.o _ _ (C),.v _ _ (rj b ⟨y,z⟩ e G (g+34)),.y] (by kernel_rfl)) λi H=>⟨⟨H 53 _ rfl,H 35 _ rfl⟩,(H 45 _ rfl).trans (v9 t)⟩|b q r=>rw[F]at A;obtain⟨G,J,L⟩:=A;refine oW (nX (b:=q) (c:=r) J) λM N O P Q R S T a0=>?_;refine oU (i:=[(53,.a (.b 10)),(35,.a (.a 512)),(45,.b (t++[lW ((h*4+0)*16,q,ae (lF (q,r)) 1023,64)]))]) (ot (GW.lu.k9 (la w (la v (la u lD))) (33) (LV.a (V.a h))) [.o _ _ (C),.v _ _ (rj b ⟨y,z⟩ e G (g+34)),.b _ _ (N),.v _ _ (@nG (g+39) ({σ:=St a,mu:=b}) (lF (q,r))),.b _ _ (congrArg (λU=>!U) (O)),.v _ _ ((λg=>ye g a b h 0 ⟨y,z⟩ (by decide)) (g+34)),.v _ _ (mq ((λg=>oF g a b (lF (q,r)) M) (g+34)) (R)),.b _ _ (mG (E:t.length<=4096))] (by kernel_rfl)) λi H=>⟨⟨H 53 _ rfl,H 35 _ rfl⟩,(H 45 _ rfl).trans (by refine Q.symm▸?_;rfl)⟩|t p=>rw[F]at A;obtain⟨G,W,X⟩:=A;refine nc (rl (b:=p) (rr W X) X) λM N O P Q=>?_;refine oU (i:=[(53,.a (.b 10)),(35,.a (.a 512)),(45,.b (t++(nQ h (c h)).map lW))]) (ot (GW.lu.k9 (la w (la v (la u lD))) (33) (LV.a (V.a h))) [.o _ _ (C),.v _ _ (rj b ⟨y,z⟩ e G (g+34)),.b _ _ (N),.v _ _ (@nG (g+39) ({σ:=St a,mu:=b}) (p*64+1)),.b _ _ (congrArg (λU=>!U) (O)),.v _ _ (mq ((λg=>oF g a b (p*64+1) M) (g+34)) (Q)),.v _ _ ((G8 a b h p (c h) ⟨y,z⟩ W X e (B p F)) (g+5)),.b _ _ (tI (mG (E:t.length<=4096):(aE (t.length<=4096))=I) (mG ((by rw[ay];have:=G9 h (c h);exact lk this rfl:((nQ h (c h)).map lW).length<=4096):(b9 lW (nQ h (c h))).length<=4096):(aE ((b9 lW (nQ h (c h))).length<=4096))=I))] (by kernel_rfl)) λi H=>⟨⟨H 53 _ rfl,H 35 _ rfl⟩,H 45 _ rfl⟩);rw[←eD]at l;have C:lS (kX lj (g+48)) [(53,.a (.b 10)),(35,.a (.a 512)),(45,.b [])] ak 1 [.q (.q (.b 53) 66) 59] ⟨St a,b⟩=_:=wg ak _ (l7 m8 [] (by kernel_rfl));exact lq [.s _ _ _ _ _ (qa lj (C) (j)) (la l lD)] (by kernel_rfl)
theorem G_(e)(f)(g:Int->Option (Int×Int)):(pN e f g).length<=4:=by induction f with|n=>exact bv _|b a b=>exact cM (bv _)|t c=>unfold pN;rw[ay];exact bp ..
theorem R9{a}(e)(b:a.ev f e g=.ok (.a 4) g):lS a f I 1 [e] g=.ok (l8.map .a) g:=wg I e b
theorem R_(e:a.ws.length<=4096)(a0:ym a.ws d c)(f):Rs (f+50) 403 [.b 10,.a 512] a b (.c ((l8.flatMap λg=>pN g (d g) (c g)).map mv)):=by
 obtain⟨h,a3,a4,i⟩:=uX (b:=kX lj (f+48)) (h:=.inl 33) (p:=fb 1 (nM 403)) (q:=⟨St a,b⟩) (m:=45) V.a (λj k=>k9 33 (.a (.a j)) k) (λ_ _=>rfl) (λk=>kZ 53 k=Z (.a (.b 10))/\kZ 35 k=Z (.a (.a 512))) (λg=>(pN g (d g) (c g)).map mv) l8 [(53,.a (.b 10)),(35,.a (.a 512)),(45,.b [])] [] ⟨rfl,rfl⟩ rfl (by decide) (by intro l _;rw[ay];exact G_ _ _ _) (by
  rintro g a5 k m⟨n,o⟩p a6;obtain⟨q,r⟩:=pM a5;obtain⟨s,a7⟩:=a0 g q r;have t:=mW ⟨q,r⟩;have u:m.length<=4096:=by exact lk a6 rfl
  have a8:=λf=>ye f a b g 0 ⟨q,r⟩ (by decide);cases v:d g with|n=>
   refine oU (i:=[(53,.a (.b 10)),(35,.a (.a 512)),(45,.b m)]) (ot (GW.lu.k9 (la p (la o (la n lD))) (33) (LV.a (V.a g))) [.o _ _ (t),.v _ _ (rj b ⟨q,r⟩ e (by rw[v]at s;exact s:lI a.ws (128+g)=0) (f+34)),.n,.n,.n] (by kernel_rfl)) λh w=>⟨⟨w 53 _ rfl,w 35 _ rfl⟩,(w 45 _ rfl).trans (v9 m)⟩|b x y=>
   rw[v]at s;refine gz λz A=>?_;obtain⟨B,a9,b0⟩:=s;refine oW (nX (b:=x) (c:=y) a9) λC E F G H b1 b2 b3 b4=>?_;refine A ?_;refine oU (i:=[(53,.a (.b 10)),(35,.a (.a 512)),(45,.b (m++(pN g (.b x y) (c g)).map mv))]) (ot (GW.lu.k9 (la p (la o (la n lD))) (33) (LV.a (V.a g))) [.o _ _ (t),.v _ _ (rj b ⟨q,r⟩ e B (f+34)),.b _ _ (congrArg (λJ=>!J) (E)),.v _ _ (@nG (f+38) ({σ:=St a,mu:=b}) (lF (x,y))),.b _ _ (congrArg (λJ=>!J) (F)),.y,.v _ _ (a8 (f+34)),.b _ _ (mG (u:m.length<=4096))] (by kernel_rfl)) λh w=>⟨⟨w 53 _ rfl,w 35 _ rfl⟩,w 45 _ rfl⟩|t L=>
   have b5:=a7 L v;rw[v]at s;refine gz λz A=>?_;obtain⟨B,M,N⟩:=s;refine nc (rl (b:=L) (rr M N) N) λC E F G H=>?_;refine A ?_;have b6:∀(f:Nat)(k:Ro),kZ 53 k=Z (.a (.b 10))->kZ 34 k=Z (.a (.a L))->(kX lj (f+20)).ev k (.lc (.e [.b 61,.k .Add (.b 34) (.k .Mult (.f (.a 4)) (.b 61))]) (dp 61) 1 [.q (.q (.b 53) 66) 59] []) ⟨St a,b⟩=.ok (.c (l8.map λl=>.e [.a l,.a (L+4*l)])) ⟨St a,b⟩:=by intro f k n O;refine pL V.a (λj k=>k9 61 (.a (.a j)) k) (λ_ _=>rfl) (λl=>.e [.a l,.a (L+4*l)]) l8 (R9 (a:=kX lj (f+19)) (f:=k) (g:=⟨St a,b⟩) (.q (.q (.b 53) 66) 59) (l7 (la O (la n lD)) [] (by kernel_rfl))) (by decide) λl P=>?_;refine lA (pM P) λQ R=>?_;exact l7 (GW.lu.k9 (la O (la n lD)) (61) (LV.a (V.a l))) [.o _ _ ((mW ⟨Q,R⟩))] (by kernel_rfl)
   have c1:∀(f:Nat)(k:Ro),kZ 53 k=Z (.a (.b 10))->kZ 44 k=Z (.a (.c (l8.map λl=>.e [.a l,.a (L+4*l)])))->(kX lj (f+20)).ev k (.lc (.b 138) (dp 138) 0 [.b 44] [.n (.k .BitAnd (.p (.q (.b 53) 41) 107 [.j (.b 138) (.f (.a 1))]) (.f (.a 1))) [.NotEq] [.f (.a 0)]]) ⟨St a,b⟩=.ok (.c ((l8.filter λl=>qc (c g l)).map λl=>.e [.a l,.a (L+4*l)])) ⟨St a,b⟩:=by
    intro f k n S;have T:lS (kX lj (f+19)) k I 0 [.b 44] ⟨St a,b⟩=.ok (l8.map λl=>.e [.a l,.a (L+4*l)]) ⟨St a,b⟩:=xW S;refine yk (λl=>V.e [.a l,.a (L+4*l)]) (λl k=>k9 138 (.a (V.e [.a l,.a (L+4*l)])) k) (λ_ _=>rfl) (λl=>qc (c g l)) (λl=>V.e [.a l,.a (L+4*l)]) l8 T (by decide) (λl P=>?_) λl P _=>?_;·refine gz λz A=>?_;refine lA (pM P) λQ R=>?_;refine lA (b5 l Q R) λU W=>?_;refine A ?_;cases v:c g l with|none=>exact uS (GW.lu.k9 (la S (la n lD)) (138) (LV.a (V.e [V.a l,V.a (L+4*l)]))) [.v _ _ (rk b M N ⟨Q,R⟩ e (by refine ah U ?_;refine ah (congrArg _ v) ?_;rfl:lI a.ws (L/4+l)=0) (f+4)),.n] (by kernel_rfl)|some c2=>refine gz λz A=>?_;obtain⟨x,y⟩:=c2;rw[v]at W;refine oW (nX (b:=x) (c:=y) W) λC E F G H b1 b2 b3 b4=>?_;refine A ?_;exact uS (GW.lu.k9 (la S (la n lD)) (138) (LV.a (V.e [V.a l,V.a (L+4*l)]))) [.v _ _ (rk b M N ⟨Q,R⟩ e (by refine ah U ?_;refine ah (congrArg _ v) ?_;rfl:lI a.ws (L/4+l)=lF (x,y)) (f+4)),.b _ _ (congrArg (λJ=>!J) (E))] (by kernel_rfl)
    ·exact l7 (GW.lu.k9 (la S (la n lD)) (138) (LV.a (V.e [V.a l,V.a (L+4*l)]))) [] (by kernel_rfl)
   have X:∀(f:Nat)(k:Ro),kZ 53 k=Z (.a (.b 10))->kZ 33 k=Z (.a (.a g))->kZ 153 k=Z (.a (.c ((l8.filter λl=>qc (c g l)).map λl=>.e [.a l,.a (L+4*l)])))->(kX lj (f+30)).ev k (.lc (.e [.p (.q (.b 53) 66) 36 [.b 33,.b 61],.b 148]) (jp [61,148]) 0 [.b 153] []) ⟨St a,b⟩=.ok (.c ((pN g (d g) (c g)).map mv)) ⟨St a,b⟩:=by
    intro f k n c3 c4;have T:lS (kX lj (f+29)) k I 0 [.b 153] ⟨St a,b⟩=.ok ((l8.filter λl=>qc (c g l)).map λl=>.e [.a l,.a (L+4*l)]) ⟨St a,b⟩:=xW c4;refine(pL (λl=>V.e [.a l,.a (L+4*l)]) (λl k=>k9 148 (.a (.a (L+4*l))) (k9 61 (.a (.a l)) k)) (λ_ _=>rfl) (λl=>mv ((g*4+l)*16,L+4*l)) (l8.filter λl=>qc (c g l)) T (ao (bp ..) (by decide)) λl P=>?_).trans ?_;·refine lA (pM (List.mem_filter.mp P).1) λQ R=>?_;exact l7 (GW.lu.k9 (GW.lu.k9 (la c4 (la c3 (la n lD))) (61) (LV.a (V.a l))) (148) (LV.a (V.a (L+4*l)))) [.v _ _ ((λf=>ye f a b g l ⟨q,r⟩ ⟨Q,R⟩) (f+17))] (by kernel_rfl)
    ·refine v▸?_;refine List.map_map.symm▸?_;rfl
   have c5:((pN g (d g) (c g)).map mv).length<=4096:=by rw[ay];have:=G_ g (d g) (c g);exact lk this rfl
   rw[v]at X c5;refine oU (i:=[(53,.a (.b 10)),(35,.a (.a 512)),(45,.b (m++(pN g (.t L) (c g)).map mv))]) (ot (GW.lu.k9 (la p (la o (la n lD))) (33) (LV.a (V.a g))) [.o _ _ (t),.v _ _ (rj b ⟨q,r⟩ e B (f+34)),.b _ _ (congrArg (λJ=>!J) (E)),.v _ _ (@nG (f+38) ({σ:=St a,mu:=b}) (L*64+1)),.b _ _ (congrArg (λJ=>!J) (F)),.n,.b _ _ (congrArg (λJ=>!J) (E)),.v _ _ (mq ((λf=>oF f a b (L*64+1) C) (f+34)) (H)),.v _ _ (b6 (f+25) (k9 34 (LV.a (V.a L)) (k9 16 (LV.a (V.a (L*64+1))) (k9 39 (LV.a (V.a (512+4*g))) (k9 33 (LV.a (V.a g)) k)))) (GW.lu.k9 (GW.lu.k9 (GW.lu.k9 (GW.lu.k9 (la p (la o (la n lD))) 33 (LV.a (V.a g))) 39 (LV.a (V.a (512+4*g)))) 16 (LV.a (V.a (L*64+1)))) 34 (LV.a (V.a L)) 53 (LV.a (V.b 10)) rfl) (GW.lu.k9 (GW.lu.k9 (GW.lu.k9 (GW.lu.k9 (la p (la o (la n lD))) 33 (LV.a (V.a g))) 39 (LV.a (V.a (512+4*g)))) 16 (LV.a (V.a (L*64+1)))) 34 (LV.a (V.a L)) 34 (LV.a (V.a L)) rfl)),.v _ _ (c1 (f+25) (k9 44 (LV.a (V.c (b9 (λl=>V.e [V.a l,V.a (L+4*l)]) l8))) (k9 34 (LV.a (V.a L)) (k9 16 (LV.a (V.a (L*64+1))) (k9 39 (LV.a (V.a (512+4*g))) (k9 33 (LV.a (V.a g)) k))))) (GW.lu.k9 (GW.lu.k9 (GW.lu.k9 (GW.lu.k9 (GW.lu.k9 (la p (la o (la n lD))) 33 (LV.a (V.a g))) 39 (LV.a (V.a (512+4*g)))) 16 (LV.a (V.a (L*64+1)))) 34 (LV.a (V.a L))) 44 (LV.a (V.c (b9 (λl=>V.e [V.a l,V.a (L+4*l)]) l8))) 53 (LV.a (V.b 10)) rfl) (GW.lu.k9 (GW.lu.k9 (GW.lu.k9 (GW.lu.k9 (GW.lu.k9 (la p (la o (la n lD))) 33 (LV.a (V.a g))) 39 (LV.a (V.a (512+4*g)))) 16 (LV.a (V.a (L*64+1)))) 34 (LV.a (V.a L))) 44 (LV.a (V.c (b9 (λl=>V.e [V.a l,V.a (L+4*l)]) l8))) 44 (LV.a (V.c (b9 (λl=>V.e [V.a l,V.a (L+4*l)]) l8))) rfl)),.v _ _ (X (f+15) (k9 153 (LV.a (V.c (b9 (λl=>V.e [V.a l,V.a (L+4*l)]) (fP (λl=>qc (c g l)) l8)))) (k9 44 (LV.a (V.c (b9 (λl=>V.e [V.a l,V.a (L+4*l)]) l8))) (k9 34 (LV.a (V.a L)) (k9 16 (LV.a (V.a (L*64+1))) (k9 39 (LV.a (V.a (512+4*g))) (k9 33 (LV.a (V.a g)) k)))))) (GW.lu.k9 (GW.lu.k9 (GW.lu.k9 (GW.lu.k9 (GW.lu.k9 (GW.lu.k9 (la p (la o (la n lD))) 33 (LV.a (V.a g))) 39 (LV.a (V.a (512+4*g)))) 16 (LV.a (V.a (L*64+1)))) 34 (LV.a (V.a L))) 44 (LV.a (V.c (b9 (λl=>V.e [V.a l,V.a (L+4*l)]) l8)))) 153 (LV.a (V.c (b9 (λl=>V.e [V.a l,V.a (L+4*l)]) (fP (λl=>qc (c g l)) l8)))) 53 (LV.a (V.b 10)) rfl) (GW.lu.k9 (GW.lu.k9 (GW.lu.k9 (GW.lu.k9 (GW.lu.k9 (GW.lu.k9 (la p (la o (la n lD))) 33 (LV.a (V.a g))) 39 (LV.a (V.a (512+4*g)))) 16 (LV.a (V.a (L*64+1)))) 34 (LV.a (V.a L))) 44 (LV.a (V.c (b9 (λl=>V.e [V.a l,V.a (L+4*l)]) l8)))) 153 (LV.a (V.c (b9 (λl=>V.e [V.a l,V.a (L+4*l)]) (fP (λl=>qc (c g l)) l8)))) 33 (LV.a (V.a g)) rfl) (GW.lu.k9 (GW.lu.k9 (GW.lu.k9 (GW.lu.k9 (GW.lu.k9 (GW.lu.k9 (la p (la o (la n lD))) 33 (LV.a (V.a g))) 39 (LV.a (V.a (512+4*g)))) 16 (LV.a (V.a (L*64+1)))) 34 (LV.a (V.a L))) 44 (LV.a (V.c (b9 (λl=>V.e [V.a l,V.a (L+4*l)]) l8)))) 153 (LV.a (V.c (b9 (λl=>V.e [V.a l,V.a (L+4*l)]) (fP (λl=>qc (c g l)) l8)))) 153 (LV.a (V.c (b9 (λl=>V.e [V.a l,V.a (L+4*l)]) (fP (λl=>qc (c g l)) l8)))) rfl)),.b _ _ (tI (mG (u:m.length<=4096):(aE (m.length<=4096))=I) (mG (c5:(b9 mv (pN g (rW.t L) (c g))).length<=4096):(aE ((b9 mv (pN g (rW.t L) (c g))).length<=4096))=I))] (by kernel_rfl)) λh w=>⟨⟨w 53 _ rfl,w 35 _ rfl⟩,w 45 _ rfl⟩);rw[←eD]at i;have t:lS (kX lj (f+48)) [(53,.a (.b 10)),(35,.a (.a 512)),(45,.b [])] ak 1 [.q (.q (.b 53) 66) 59] ⟨St a,b⟩=_:=wg ak _ (l7 m8 [] (by kernel_rfl));exact lq [.s _ _ _ _ _ (qa lj (t) (a3)) (la i lD)] (by kernel_rfl)
end
end
section
noncomputable def Ha:List Nat:=[48,49,50,51,52,53,54,55,56,57,97,98,99,100,101,102]
noncomputable def qL(a:Int):Nat:=Ha.getD a.toNat 0
theorem Hb(a)(b)(c:0<=b/\b<=4096)(d:b.toNat<a.length)(e):mS lj (.d a) (.a b) e=.ok (.d [a.getD b.toNat 0]) e:=by show(if 0<=b&&b<=4096 then M.c (a[b.toNat]?.map λf=>V.d [f])else M.b) e=_;refine(if_pos (Bool.and_eq_true_iff.mpr ⟨decide_eq_true c.1,decide_eq_true c.2⟩))▸?_;rw[a_,aI d];rfl
theorem Hc(a)(b:0<=a/\a<16)(c):mS lj (.d [48,49,50,51,52,53,54,55,56,57,97,98,99,100,101,102]) (.a a) c=.ok (.d [qL a]) c:=Hb Ha a ⟨b.1,bx (bj b.2) (by decide)⟩ ((Int.toNat_lt b.1).mpr b.2) c
theorem He(a:oX b=I)(c:0<=d/\d<=1000):lU .Pow (.a b) (.a d)=Z (.a (b^d.toNat)):=by rw[Gu,a,decide_eq_true c.1,decide_eq_true c.2];rfl
theorem Hf(a:0<b/\b<1073741824):lU .FloorDiv (.a c) (.a b)=Z (.a (c/b)):=by rw[QN,decide_eq_true a.1,decide_eq_true a.2];rfl
noncomputable def yn:List Int:=[7,6,5,4,3,2,1,0]
noncomputable def nR(a:Int):List Nat:=[qL (a/268435456%16),qL (a/16777216%16),qL (a/1048576%16),qL (a/65536%16),qL (a/4096%16),qL (a/256%16),qL (a/16%16),qL (a/1%16)]
theorem Sa(a:b∈yn):0<=b/\b<8:=(by decide:∀b∈yn,(0:Int)<=b/\b<8) b a
noncomputable def ups:List Int:=[0,1,2,3,4,5,6,7]
theorem Sb(a:b∈ups):(0<=7-b/\7-b<=1000)/\0<(16:Int)^(7-b).toNat/\(16:Int)^(7-b).toNat<1073741824:=(by decide:∀b∈ups,((0:Int)<=7-b/\7-b<=1000)/\0<(16:Int)^(7-b).toNat/\(16:Int)^(7-b).toNat<1073741824) b a
theorem yo(a)(b)(c):Rt (b+20) 191 [.a a] c (.d (nR a)) c:=by
 have d:lS (kX lj (b+16)) [(15,.a (.a a))] I 1 [.f (.a 7),.un .USub (.f (.a 1)),.un .USub (.f (.a 1))] c=.ok (yn.map .a) c:=rfl;have e:(kX lj (b+17)).ev [(15,.a (.a a))] (.lc (.j (.f (.d [48,49,50,51,52,53,54,55,56,57,97,98,99,100,101,102])) (.k .BitAnd (.k .RShift (.b 15) (.k .Mult (.f (.a 4)) (.b 39))) (.f (.a 15)))) (dp 39) 1 [.f (.a 7),.un .USub (.f (.a 1)),.un .USub (.f (.a 1))] []) c=.ok (.c ((nR a).map λf=>.d [f])) c:=by refine(pL V.a (λg h=>k9 39 (.a (.a g)) h) (λ_ _=>rfl) (λi=>.d [qL (a/2^(4*i).toNat%16)]) yn d (by decide) λi j=>?_).trans rfl;have k:=Sa j;have l:=uW (b:=i) (sm k.1 (bH k.2 (by decide)));have m:lU .RShift (.a a) (.a (4*i))=Z (.a (a/2^(4*i).toNat)):=if_pos (cC (by decide) k.1);have n:=Hc (a/2^(4*i).toNat%16) ⟨bz _ (by decide),bq _ (by decide)⟩ c;exact l7 (GW.lu.k9 (la (rfl:kZ 15 [(15,LV.a (.a a))]=Z (.a (.a a))) lD) 39 (LV.a (V.a i))) [.o _ _ l,.d _ _ m,.v _ _ ((congrArg (λo=>mS lj (.d [48,49,50,51,52,53,54,55,56,57,97,98,99,100,101,102]) (.a o) c) (jD _)).trans n)] (by kernel_rfl)
 exact lq [.v _ _ (e),.v _ _ ((rfl:so lj [] [.c ((nR a).map λf=>.d [f])] c=.ok (.d (nR a)) c))] (by kernel_rfl)
theorem yp(a)(b)(c):Rt (b+20) 902 [.a a] c (.d (nR a)) c:=by
 have d:lS (kX lj (b+16)) [(15,.a (.a a))] I 1 [.f (.a 8)] c=.ok (ups.map .a) c:=rfl;have e:(kX lj (b+17)).ev [(15,.a (.a a))] (.lc (.j (.f (.d [48,49,50,51,52,53,54,55,56,57,97,98,99,100,101,102])) (.k .Mod (.k .FloorDiv (.b 15) (.k .Pow (.f (.a 16)) (.k .Sub (.f (.a 7)) (.b 0)))) (.f (.a 16)))) (dp 0) 1 [.f (.a 8)] []) c=.ok (.c ((nR a).map λf=>.d [f])) c:=by refine(pL V.a (λg h=>k9 0 (.a (.a g)) h) (λ_ _=>rfl) (λi=>.d [qL (a/16^(7-i).toNat%16)]) ups d (by decide) λi j=>?_).trans rfl;have k:=Sb j;have l:lU .Pow (.a 16) (.a (7-i))=Z (.a (16^(7-i).toNat)):=He rfl k.1;have m:lU .FloorDiv (.a a) (.a (16^(7-i).toNat))=Z (.a (a/16^(7-i).toNat)):=Hf k.2;have n:=Hc (a/16^(7-i).toNat%16) ⟨bz _ (by decide),bq _ (by decide)⟩ c;exact l7 (GW.lu.k9 (la (rfl:kZ 15 [(15,LV.a (.a a))]=Z (.a (.a a))) lD) 0 (LV.a (V.a i))) [.o _ _ l,.d _ _ m,.v _ _ n] (by kernel_rfl)
 exact lq [.v _ _ (e),.v _ _ ((rfl:so lj [] [.c ((nR a).map λf=>.d [f])] c=.ok (.d (nR a)) c))] (by kernel_rfl)
noncomputable def tO:List (Int×Nat):=[(0,118),(1,114),(2,119),(3,120),(4,117),(5,103),(6,97),(7,100)]
noncomputable def sgn(a:Int)(b:Int×Nat):Nat:=if a/2^b.1.toNat%2==1 then b.2 else 45
noncomputable def qe(a:Int):List Nat:=tO.map (sgn a)
noncomputable def uY(a:Int):List Nat:=if a==64 then[42]else[]
noncomputable def oG(a:Int×Int×Int×Int):List Nat:=nR a.1++[32]++nR a.2.1++[32]++qe a.2.2.1++uY a.2.2.2
theorem Sc(a):(nR a).length=8:=rfl
theorem Sd(a):(qe a).length=8:=rfl
theorem Sf(a):(uY a).length<=1:=by unfold uY;split<;>simp
theorem Hg(a:Int×Int×Int×Int):(oG a).length<=27:=by unfold oG;simp only[aW,Sc,Sd,bE,i7];have:=Sf a.2.2.2;exact(Y [] [(uY a.snd.snd.snd).length] ⟨[1],[],[.L .a .u],.L (.p (.p (.p (.p (.p (.k 8) (.p .o .u)) (.k 8)) (.p .o .u)) (.k 8)) .a) (.k 27)⟩) this
theorem Sg:∀a:List (List Nat),ud (a.map .d)=Z a:=by intro b;induction b with|nil=>exact rfl|cons c a d=>exact congrArg (ii (c::·)) d
theorem Hh(a)(b)(c)(d:b.length<=4096)(e:∀f∈b,f.length<=200)(g:a.length<=200):so lj a [.c (b.map .d)] c=.ok (.d (qs a b)) c:=by show M.bind (M.c (ud (b.map V.d))) (λh=>if(b.map V.d).length<=4096&&h.all (λf=>f.length<=200)&&a.length<=200 then M.pure (V.d (qs a h))else M.b) c=_;rw[Sg];refine(M.lO rfl).trans ?_;rw[if_pos (by rw[ay];simp only[aJ,decide_eq_true_eq,dB];exact n0 ⟨d,e⟩ g)];rfl
theorem Hi{a b:Type}(c:a->b):∀d:List a,(d.flatMap λe=>[c e])=d.map c:=by intro f;induction f with|nil=>exact rfl|cons g d h=>refine ah dv ?_;refine ah (congrArg _ h) ?_;rfl
noncomputable def yq(a:Int×Int×Int×Int)(b:Ro):Ro:=k9 21 (.a (.a a.2.2.2)) (k9 25 (.a (.a a.2.2.1)) (k9 63 (.a (.a a.2.1)) (k9 36 (.a (.a a.1)) b)))
theorem Sh(a)(b)(c)(d)(e:kZ 25 c=Z (.a (.a a))):(kX lj (b+19)).ev c (.lc (.o (.n (.k .BitAnd (.k .RShift (.b 25) (.b 99)) (.f (.a 1))) [.Eq] [.f (.a 1)]) (.b 157) (.f (.d [45]))) (jp [99,157]) 2 [.f (.d [118,114,119,120,117,103,97,100])] []) d=.ok (.c ((qe a).map λf=>.d [f])) d:=by have g:lS (kX lj (b+18)) c I 2 [.f (.d [118,114,119,120,117,103,97,100])] d=.ok (tO.map λh=>.e [.a h.1,.d [h.2]]) d:=rfl;refine(pL (λh:Int×Nat=>V.e [.a h.1,.d [h.2]]) (λh c=>k9 157 (.a (.d [h.2])) (k9 99 (.a (.a h.1)) c)) (λ_ _=>rfl) (λh=>.d [sgn a h]) tO g (by decide) λh i=>?_).trans rfl;have j:=(by decide:∀h∈tO,0<=h.1) h i;unfold sgn;have k:lU .RShift (.a a) (.a h.1)=Z (.a (a/2^h.1.toNat)):=if_pos j;cases l:a/2^h.1.toNat%2==1 with|false=>exact l7 (GW.lu.k9 (GW.lu.k9 (la e lD) 99 (LV.a (V.a h.1))) 157 (LV.a (V.d [h.2]))) [.d _ _ k,.b _ _ ((congrArg (λm=>m==1) (gK (a/2^h.1.toNat))).trans l)] (by kernel_rfl)|true=>exact l7 (GW.lu.k9 (GW.lu.k9 (la e lD) 99 (LV.a (V.a h.1))) 157 (LV.a (V.d [h.2]))) [.d _ _ k,.b _ _ ((congrArg (λm=>m==1) (gK (a/2^h.1.toNat))).trans l)] (by kernel_rfl)
theorem Si(a)(b)(c)(d)(e:kZ 25 c=Z (.a (.a a))):(kX lj (b+19)).ev c (.lc (.o (.n (.k .Mod (.k .FloorDiv (.b 25) (.k .Pow (.f (.a 2)) (.b 0))) (.f (.a 2))) [.Eq] [.f (.a 1)]) (.j (.f (.d [118,114,119,120,117,103,97,100])) (.b 0)) (.f (.d [45]))) (dp 0) 1 [.f (.a 8)] []) d=.ok (.c ((qe a).map λf=>.d [f])) d:=by have g:lS (kX lj (b+18)) c I 1 [.f (.a 8)] d=.ok (tO.map λh=>.a h.1) d:=rfl;refine(pL (λh:Int×Nat=>V.a h.1) (λh c=>k9 0 (.a (.a h.1)) c) (λ_ _=>rfl) (λh=>.d [sgn a h]) tO g (by decide) λh i=>?_).trans rfl;have j:=(by decide:∀h∈tO,(0<=h.1/\h.1<=1000)/\(0<(2:Int)^h.1.toNat/\(2:Int)^h.1.toNat<1073741824)/\h.1.toNat<8/\[118,114,119,120,117,103,97,100].getD h.1.toNat 0=h.2) h i;have k:lU .Pow (.a 2) (.a h.1)=Z (.a (2^h.1.toNat)):=He rfl j.1;have l:lU .FloorDiv (.a a) (.a (2^h.1.toNat))=Z (.a (a/2^h.1.toNat)):=Hf j.2.1;have m:∀d,mS lj (.d [118,114,119,120,117,103,97,100]) (.a h.1) d=.ok (.d [h.2]) d:=λd=>(Hb [118,114,119,120,117,103,97,100] _ ⟨j.1.1,bx j.1.2 (by decide)⟩ j.2.2.1 d).trans (j.2.2.2.symm▸rfl);unfold sgn;cases n:a/2^h.1.toNat%2==1 with|false=>exact l7 (GW.lu.k9 (la e lD) 0 (LV.a (V.a h.1))) [.o _ _ k,.d _ _ l,.b _ _ n] (by kernel_rfl)|true=>exact l7 (GW.lu.k9 (la e lD) 0 (LV.a (V.a h.1))) [.o _ _ k,.d _ _ l,.b _ _ n,.v _ _ (m d)] (by kernel_rfl)
section
variable(a:Q)(b:Nat)
theorem Sj(c:List (Int×Int×Int×Int))(d:c.length<=16)(e:∀f,Rs (f+50) 384 [.b 10,.a 512] a b (.c (c.map lW)))(f):Rs (f+60) 415 [.b 10,.a 512] a b (.d (qs [10] (c.map oG))):=by
 obtain⟨g,h,i,j⟩:=uX (b:=kX lj (f+58)) (h:=.inr [36,63,25,21]) (p:=fb 1 (nM 415)) (q:=⟨St a,b⟩) (m:=46) lW yq (λ_ _=>rfl) (λk=>kZ 53 k=Z (.a (.b 10))/\kZ 35 k=Z (.a (.a 512))) (λl=>[.d (oG l)]) c [(53,.a (.b 10)),(35,.a (.a 512)),(46,.b [])] [] ⟨rfl,rfl⟩ rfl ((Y [] [c.length] ⟨[1],[],[.L .a (.k 16)],.L (.p .o (.m 4 .a)) (.k 100)⟩) d) (by intro _ _;simp) (by
  rintro l m k n⟨o,p⟩q r;have s:n.length<=4096:=by exact lk r rfl
  have t:kZ 25 (yq l k)=Z (.a (.a l.2.2.1)):=(GW.nE _ _ rfl).trans (GW.nW _ _ _);have u:=λf=>Sh l.2.2.1 f (yq l k) ⟨St a,b⟩ t;have v:so lj [] [.c ((qe l.2.2.1).map λw=>.d [w])] ⟨St a,b⟩=.ok (.d (qe l.2.2.1)) ⟨St a,b⟩:=rfl;have x:GW.lu (k9 21 (.a (.a l.2.2.2)) (k9 25 (.a (.a l.2.2.1)) (k9 63 (.a (.a l.2.1)) (k9 36 (.a (.a l.1)) [(46,.b n),(35,.a (.a 512)),(53,.a (.b 10))])))) (yq l k):=GW.lu.k9 (GW.lu.k9 (GW.lu.k9 (GW.lu.k9 (la q (la p (la o lD))) 36 _) 63 _) 25 _) 21 _;delta oG uY;cases y:l.2.2.2==64 with|true=>exact oU (i:=[(53,.a (.b 10)),(35,.a (.a 512)),(46,.b (n++[.d (nR l.1++[32]++nR l.2.1++[32]++qe l.2.2.1++[42])]))]) (ot x [.v _ _ (u (f+37)),.v _ _ v,.b _ _ y,.v _ _ (yo l.1 (f+31) ⟨St a,b⟩),.v _ _ (yo l.2.1 (f+32) ⟨St a,b⟩),.b _ _ (mG (s:n.length<=4096))] (by kernel_rfl)) λg z=>⟨⟨z 53 _ rfl,z 35 _ rfl⟩,z 46 _ rfl⟩|false=>exact oU (i:=[(53,.a (.b 10)),(35,.a (.a 512)),(46,.b (n++[.d (nR l.1++[32]++nR l.2.1++[32]++qe l.2.2.1++[])]))]) (ot x [.v _ _ (u (f+37)),.v _ _ v,.b _ _ y,.v _ _ (yo l.1 (f+31) ⟨St a,b⟩),.v _ _ (yo l.2.1 (f+32) ⟨St a,b⟩),.b _ _ (mG (s:n.length<=4096))] (by kernel_rfl)) λg z=>⟨⟨z 53 _ rfl,z 35 _ rfl⟩,z 46 _ rfl⟩);have A:(c.flatMap λl=>[V.d (oG l)])=(c.map oG).map .d:=by exact List.map_map.symm▸(Hi _ c)
 rw[A]at j;have B:lS (kX lj (f+58)) [(53,.a (.b 10)),(35,.a (.a 512)),(46,.b [])] ak 0 [.p (.b 53) 44 [.b 35]] ⟨St a,b⟩=.ok (c.map lW) ⟨St a,b⟩:=by exact tH _ (l7 m8 [.v _ _ (e (f+7))] (by kernel_rfl))
 exact lq [.s _ _ _ _ _ (qa lj (B) (h)) (la j lD),.v _ _ ((Hh [10] (c.map oG) ⟨St a,b⟩ (by rw[ay];exact lk d rfl) (by intro C E;obtain⟨l,_,rfl⟩:=List.mem_map.mp E;have:=Hg l;exact lk this rfl) (by decide)))] (by kernel_rfl)
end
end
noncomputable def pV(a:Int×Int):V:=.e [.a a.1,.a a.2]
theorem rX(a)(b:List (Int×Int×Int)):mL a (vP b)=(lz a b).map pV:=Gp pV a b
theorem Hj(a)(b)(c):pT a (pV b) (vP c)=vP (mc a b c):=Gv pV a b c
theorem Sk(a)(b):qU a (vP b)=vP (mH a b):=Gx pV a b
theorem yr(a):(vP a).length=a.length:=ay ..
theorem Bs(a)(b:List (Int×Int×Int)):lz a b=D↔a∉b.map (·.1):=by
 have c:=xY a b;constructor;·intro d e;replace c:=d▸c;refine ll (List.mem_map.mp e) λf g h=>?_;induction h;have:=List.any_eq_false.mp c f g;simp at this
 ·intro e;cases i:lz a b with|none=>rfl|some j=>rw[i]at c;refine ll (List.any_eq_true.mp c) λf g k=>?_;exact(e (List.mem_map.mpr ⟨f,g,by simpa using k⟩)).elim
theorem Hk(a)(b)(c:List (Int×Int×Int))(d:(c.map (·.1)).Nodup):((mc a b c).map (·.1)).Nodup:=by
 unfold mc;split
 ·rw[b_];have e:((λf:Int×Int×Int=>f.1)∘λf=>if f.1=a then(f.1,b)else f)=λf=>f.1:=by funext f;show(if f.1=a then(f.1,b)else f).1=f.1;split<;>rfl
  exact e.symm▸d
 ·rename_i g;rw[xY]at g;refine dO▸?_;refine List.map_cons.symm▸?_;refine List.map_nil.symm▸?_;refine List.nodup_append.mpr ⟨d,by simp,λh i j k e=>?_⟩;rw[bc]at k;exact(Bs a c).mp (by simpa using g:lz a c=D) (by have l:j=a:=k;refine l▸?_;exact e▸(i))
theorem Sl(a)(b:List (Int×Int×Int))(c:(b.map (·.1)).Nodup):((mH a b).map (·.1)).Nodup:=dC (List.Sublist.map _ de) c
structure PI(q:Q)(m:List Int)(tb:Int->Int):Prop where
 c1:2<=q.lE
 c2:q.lE<=5
 e:q.e=q.d.length+1+m.length
 b:q.e<=q.lE
 h:∀f∈m,512<tb f/\tb f%16=0/\tb f<512+16*q.e
 inj:∀f∈m,∀g∈m,tb f=tb g->f=g
 i:∀a∈q.d,512<a/\a%16=0/\a<512+16*q.e/\∀f∈m,tb f≠a
 d:q.d.Nodup
 c:m.Nodup
 h0:lz 512 q.f=Z 1
 hm:∀f∈m,lz (tb f) q.f=Z 1
structure Len(q:Q)(N:Nat):Prop where
 w:q.ws.length<=N
 h:q.f.length<=N
noncomputable def upd(a:Int->Int)(b c:Int):Int->Int:=λd=>if d=b then c else a d
theorem rY(a:b≠c):upd d c e b=d b:=if_neg a
theorem sR:upd a b c b=c:=if_pos rfl
theorem PI.more(a:PI f g j)(b:k∉g)(c:512<l/\l%16=0/\l<512+16*m)(d:m<=f.lE)(e:f.e<=m)(h:m=n.length+1+(g.length+1))(i:∀o∈n,o∈f.d/\o≠l)(p:n.Nodup)(q:∀k∈g,j k≠l):PI {f with e:=m,d:=n,f:=mc l 1 f.f,ws:=ws} (g++[k]) (upd j k l):=by
 have r:∀s∈g,s≠k:=λs t u=>b (u▸t);refine⟨a.c1,a.c2,by rw[aW,gH];exact_mod_cast h,d,?_,?_,?_,p,?_,?_,?_⟩
 ·intro s t;refine aB (List.mem_append.mp t) (λt=>?_) (λt=>?_);·refine(rY (r s t))▸?_;have:=a.h s t;refine oz this.1 this.2.1 ?_;exact((Y [f.e,m,j s] [] ⟨[3,5,1,2],[.m .c 16],[.l .a .b,.A (.t (.k 512) .c) (.A (.e .e .o) (.t .c (.p (.k 512) (.m 16 .a))))],.t .c (.p (.k 512) (.m 16 .b))⟩) e this:_<512+16*m)
  ·rw[bc]at t;induction t;exact sR▸c
 ·intro s t v w u;rcases List.mem_append.mp t with x|x<;>refine aB (List.mem_append.mp w) (λy=>?_) (λy=>?_);·rw[rY (r s x),rY (r v y)]at u;exact a.inj s x v y u
  ·rw[bc]at y;rw[y,rY (r s x),sR]at u;exact(q s x u).elim
  ·rw[bc]at x;rw[x,rY (r v y),sR]at u;exact(q v y u.symm).elim
  ·rw[bc]at x y;refine x▸?_;exact y▸rfl
 ·intro o z;refine lA (i o z) λA B=>?_;refine nk (a.i o A) λC E F G=>?_;refine oK C E ((Y [f.e,m,o] [] ⟨[3,5,1,2],[.m .c 16],[.l .a .b,.e .e .o,.t .c (.p (.k 512) (.m 16 .a))],.t .c (.p (.k 512) (.m 16 .b))⟩) e E F) (λs t=>?_);refine aB (List.mem_append.mp t) (λt=>?_) (λt=>?_);·refine(rY (r s t))▸?_;exact G s t
  ·rw[bc]at t;refine t▸?_;exact sR▸(λu=>B u.symm)
 ·refine List.nodup_append.mpr ⟨a.c,by simp,λo z H J u=>?_⟩;rw[bc]at J;exact b (J▸u▸z)
 ·rw[rV];split;·rfl
  ·exact a.h0
 ·intro s t;rw[rV];split;·rfl
  ·rename_i z;refine aB (List.mem_append.mp t) (λt=>?_) (λt=>?_);·exact(rY (r s t))▸(a.hm s t)
   ·rw[bc]at t;subst t;exact(z sR).elim
theorem Sm(a:PI b c d)(e)(f:Len b g)(h:g<=4000)(i:j∉c)(k:(c.length:Int)+1<b.lE):∃(l m:Int)(n:List Int)(o p:List (Int×Int))(q:Nat),(∀r,Rq (r+70) 291 [.b 10] b e (.a l) {b with e:=m,d:=n,f:=o,ws:=p} q)/\PI {b with e:=m,d:=n,f:=o,ws:=p} (c++[j]) (upd d j l)/\Len {b with e:=m,d:=n,f:=o,ws:=p} (g+8)/\(∀s,lI p s=if l/4<=s/\s<=l/4+3 then 0 else lI b.ws s)/\(512<l/\l<=576/\l%16=0)/\∀j∈c,d j≠l:=by
 have t:=a.c2;have u:=a.e;have v:=a.b;have w:=f.w;have x:=f.h;refine aB (List.eq_nil_or_concat b.d) (λy=>?_) (λz=>mY z λn l y=>?_)
 ·have A:b.d.length=0:=by refine ah (congrArg _ y) ?_;rfl
  refine lp (Rk b e y ((Y [b.e] [b.d.length,c.length] ⟨[1,2,3],[],[.e .a (.p (.p (.n .a) .u) (.n .b)),.E .a .o],.l .o .a⟩) u A) ((Y [b.lE,b.e] [c.length,b.d.length] ⟨[4,1,3,2],[],[.t (.p (.n .a) .u) .a,.e .b (.p (.p (.n .b) .u) (.n .a)),.l .b .a,.E .b .o],.t .b .a⟩) k u v A) a.c2 (zg h w) (mm h x rfl)) λB C=>?_;have E:=wc b.ws ((512+b.e*16)/4) (wd 5);refine lp (GR b e (512+b.e*16) _ B ((Y [b.e] [b.d.length,c.length] ⟨[1,2,3],[],[.e .a (.p (.p (.n .a) .u) (.n .b)),.E .a .o],.l .o (.p (.k 512) (.w .a 16))⟩) u A) ((Y [b.lE,b.e] [c.length,b.d.length] ⟨[2,4,1,3],[],[.t (.p (.n .a) .u) .a,.l .a (.k 5),.e .b (.p (.p (.n .b) .u) (.n .a)),.E .b .o],.l (.p (.p (.k 512) (.w .b 16)) (.k 16)) (.k 1024)⟩) k t u A) ((Y [b.e] [b.d.length,c.length] ⟨[3,1,2,5,4],[.m (.p (.k 512) (.w .a 16)) 4],[.e .a (.p (.p (.n .a) .u) (.n .b)),.E .a .o],.e .c .o⟩) u A) (by exact(Y [] [g,b.ws.length,(mi b.ws ((512+b.e*16)/4) (wd 5)).length] ⟨[1,2,3],[],[.L .a (.k 4000),.L .b .a,.L .c (.p .b (.k 4))],.L (.p .c (.k 4)) (.k 4096)⟩) h w E) C) λF G=>?_;have H:∀j∈c,d j≠512+b.e*16:=λj i J=>by have:=a.h j i;exact(Y [b.e,d j] [b.d.length,c.length] ⟨[2],[.m .b 16],[.e .a (.p (.p (.n .a) .u) (.n .b)),.E .a .o,.e .b (.p (.k 512) (.w .a 16)),.A (.t (.k 512) .b) (.A (.e .d .o) (.t .b (.p (.k 512) (.m 16 .a))))],.F⟩) u A J this
  refine⟨512+b.e*16,b.e+1,b.d,mc (512+b.e*16) 1 b.f,mi (mi b.ws ((512+b.e*16)/4) (wd 5)) ((512+b.e*16)/4) 0,F,G,?_,⟨?_,?_⟩,?_,(Y [b.lE,b.e] [c.length,b.d.length] ⟨[4,3,6,1,5,2],[.m (.p (.k 512) (.w .b 16)) 16],[.t (.p (.n .a) .u) .a,.l .a (.k 5),.e .b (.p (.p (.n .b) .u) (.n .a)),.E .b .o],.A (.t (.k 512) (.p (.k 512) (.w .b 16))) (.A (.l (.p (.k 512) (.w .b 16)) (.k 576)) (.e .d .o))⟩) k t u A,H⟩;·refine a.more i ((Y [b.e] [b.d.length,c.length] ⟨[3,1,2,5,4],[.m (.p (.k 512) (.w .a 16)) 16],[.e .a (.p (.p (.n .a) .u) (.n .b)),.E .a .o],.A (.t (.k 512) (.p (.k 512) (.w .a 16))) (.A (.e .c .o) (.t (.p (.k 512) (.w .a 16)) (.p (.k 512) (.m 16 (.p .a .u)))))⟩) u A) ((Y [b.lE,b.e] [c.length,b.d.length] ⟨[4,1,3,2],[],[.t (.p (.n .a) .u) .a,.e .b (.p (.p (.n .b) .u) (.n .a)),.l .b .a,.E .b .o],.l (.p .b .u) .a⟩) k u v A) (Y [b.e] [] ⟨[],[],[],.l .a (.p .a .u)⟩) ((Y [b.e] [b.d.length,c.length] ⟨[1],[],[.e .a (.p (.p (.n .a) .u) (.n .b))],.e (.p .a .u) (.p (.p (.n .a) .u) (.p (.n .b) .u))⟩) u) (λL M=>?_) a.d H;replace M:=y▸M;cases M
  ·exact((Y [] [b.ws.length,g,(mi b.ws ((512+b.e*16)/4) (wd 5)).length,(mi (mi b.ws ((512+b.e*16)/4) (wd 5)) ((512+b.e*16)/4) 0).length] ⟨[1,3,4],[],[.L .a .b,.L .c (.p .a (.k 4)),.L .d (.p .c (.k 4))],.L .d (.p .b (.k 8))⟩) w E (wc (mi b.ws ((512+b.e*16)/4) (wd 5)) ((512+b.e*16)/4) 0):(mi (mi b.ws ((512+b.e*16)/4) (wd 5)) ((512+b.e*16)/4) 0).length<=g+8)
  ·have:=tJ (512+b.e*16) 1 b.f;exact((Y [] [b.f.length,g,(mc (512+b.e*16) 1 b.f).length] ⟨[1,3],[],[.L .a .b,.L .c (.p .a .u)],.L .c (.p .b (.k 8))⟩) x this:(mc (512+b.e*16) 1 b.f).length<=g+8)
  ·intro s;rw[sK,sK];split<;>rfl
 ·replace y:=List.concat_eq_append▸y;refine gz λN O=>?_;refine nk (a.i l (by refine y▸?_;simp)) λP Q R S=>?_;have T:=a.d;rw[y]at T;refine mj (List.nodup_append.mp T) λU V W=>?_;refine lp (Rl b e n l y ((Y [b.lE,b.e] [b.d.length,c.length] ⟨[2,1,4,3],[],[.l .a (.k 5),.e .b (.p (.p (.n .a) .u) (.n .b)),.l .b .a],.L .a (.k 10)⟩) t u v) ((Y [b.lE,b.e] [c.length,b.d.length] ⟨[2,4,1],[],[.t (.p (.n .a) .u) .a,.e .b (.p (.p (.n .b) .u) (.n .a))],.l .u (.p (.s .a .b) (.n .b))⟩) k u) ((Y [l] [] ⟨[3,2,1],[.m .a 16],[.t (.k 512) .a,.e .c .o],.l (.k 512) .a⟩) P Q) ((Y [b.lE,b.e,l] [b.d.length,c.length] ⟨[5,7,6,3,1,4,2],[.m .c 16],[.l .a (.k 5),.e .b (.p (.p (.n .a) .u) (.n .b)),.l .b .a,.e .e .o,.t .c (.p (.k 512) (.m 16 .b))],.l .c (.k 1000)⟩) t u v Q R) (zc Q) (zg h w) (mm h x rfl)) λB C=>?_;have E:=wc b.ws (l/4) (wd 5);refine lp (GR b e l _ B ((Y [l] [] ⟨[3,2,1],[.m .a 16],[.t (.k 512) .a,.e .c .o],.l .o .a⟩) P Q) ((Y [b.lE,b.e,l] [b.d.length,c.length] ⟨[5,7,6,3,1,4,2],[.m .c 16],[.l .a (.k 5),.e .b (.p (.p (.n .a) .u) (.n .b)),.l .b .a,.e .e .o,.t .c (.p (.k 512) (.m 16 .b))],.l (.p .c (.k 16)) (.k 1024)⟩) t u v Q R) (zc Q) (by exact(Y [] [g,b.ws.length,(mi b.ws (l/4) (wd 5)).length] ⟨[1,2,3],[],[.L .a (.k 4000),.L .b .a,.L .c (.p .b (.k 4))],.L (.p .c (.k 4)) (.k 4096)⟩) h w E) C) λF G=>?_;refine O ?_;refine⟨l,b.e,n,mc l 1 b.f,mi (mi b.ws (l/4) (wd 5)) (l/4) 0,F,G,?_,⟨?_,?_⟩,?_,(Y [b.lE,b.e,l] [b.d.length,c.length] ⟨[5,7,6,3,1,4,2],[.m .c 16],[.l .a (.k 5),.e .b (.p (.p (.n .a) .u) (.n .b)),.l .b .a,.t (.k 512) .c,.e .e .o,.t .c (.p (.k 512) (.m 16 .b))],.A (.t (.k 512) .c) (.A (.l .c (.k 576)) (.e .e .o))⟩) t u v P Q R,S⟩;·refine a.more i ⟨P,Q,R⟩ ((Y [b.e,b.lE] [b.d.length,c.length] ⟨[1,2],[],[.e .a (.p (.p (.n .a) .u) (.n .b)),.l .a .b],.l .a .b⟩) u v) (Y [b.e] [] ⟨[],[],[],.l .a .a⟩) ((Y [b.e] [b.d.length,c.length,n.length] ⟨[1,2],[],[.e .a (.p (.p (.n .a) .u) (.n .b)),.E .a (.p .c .u)],.e .a (.p (.p (.n .c) .u) (.p (.n .b) .u))⟩) u (by refine y▸?_;refine aW▸?_;exact List.length_singleton.symm▸rfl:b.d.length=n.length+1)) (λL M=>⟨by refine y▸?_;exact eI _ M,W L M l (by simp)⟩) U S
  ·exact((Y [] [b.ws.length,g,(mi b.ws (l/4) (wd 5)).length,(mi (mi b.ws (l/4) (wd 5)) (l/4) 0).length] ⟨[1,3,4],[],[.L .a .b,.L .c (.p .a (.k 4)),.L .d (.p .c (.k 4))],.L .d (.p .b (.k 8))⟩) w E (wc (mi b.ws (l/4) (wd 5)) (l/4) 0):(mi (mi b.ws (l/4) (wd 5)) (l/4) 0).length<=g+8)
  ·have:=tJ l 1 b.f;exact((Y [] [b.f.length,g,(mc l 1 b.f).length] ⟨[1,3],[],[.L .a .b,.L .c (.p .a .u)],.L .c (.p .b (.k 8))⟩) x this:(mc l 1 b.f).length<=g+8)
  ·intro s;rw[sK,sK];split<;>rfl
theorem Hl(a:PI b c d)(e)(f:Len b g)(h:g<=4000)(i:j∈c):∃(k:Nat),(∀l,Rq (l+60) 817 [.b 6,.a (d j)] b e (.h I) {b with f:=mH (d j) b.f,d:=b.d++[d j],ws:=mi b.ws (d j/4) (wd 1)} k)/\PI {b with f:=mH (d j) b.f,d:=b.d++[d j],ws:=mi b.ws (d j/4) (wd 1)} (c.erase j) d/\Len {b with f:=mH (d j) b.f,d:=b.d++[d j],ws:=mi b.ws (d j/4) (wd 1)} (g+4):=by
 have m:=a.c2;have n:=a.e;have o:=a.b;have p:=f.w;have q:=f.h;refine mj (a.h j i) λr s t=>?_;refine lp (GQ b e (d j) (by exact(Y [d j] [] ⟨[3,2,1],[.m .a 16],[.t (.k 512) .a,.e .c .o],.l (.k 512) .a⟩) r s) (by exact(Y [b.e,b.lE,d j] [b.d.length,c.length] ⟨[1,3,5,2,4],[.m .c 16],[.e .a (.p (.p (.n .a) .u) (.n .b)),.l .a .b,.e .e .o,.t .c (.p (.k 512) (.m 16 .a))],.t .c (.p (.k 512) (.m 16 .b))⟩) n o s t) (by exact(Y [b.lE,b.e,d j] [b.d.length,c.length] ⟨[5,7,6,3,1,4,2],[.m .c 16],[.l .a (.k 5),.e .b (.p (.p (.n .a) .u) (.n .b)),.l .b .a,.e .e .o,.t .c (.p (.k 512) (.m 16 .b))],.l .c (.k 1000)⟩) m n o s t) s (mm h q rfl) (a.hm j i) (by exact(Y [b.lE,b.e] [b.d.length,c.length] ⟨[2,1,4,3],[],[.l .a (.k 5),.e .b (.p (.p (.n .a) .u) (.n .b)),.l .b .a],.L .a (.k 4096)⟩) m n o) (by exact zg h p)) λk u=>?_;have v:∀{u},u∈c.erase j->u∈c:=λw=>ez w;have x:∀{u},u∈c.erase j->u≠j:=λw=>((a.c.mem_erase_iff).mp w).1;refine pQ k u ⟨a.c1,a.c2,?_,a.b,λu w=>a.h u (v w),λu w y z A=>a.inj u (v w) y (v z) A,?_,?_,a.c.erase _,?_,?_⟩ ⟨?_,?_⟩;·have B:=List.length_erase_of_mem i;refine aW▸?_;refine List.length_singleton.symm▸?_;exact(Y [b.e] [b.d.length,c.length,(c.erase j).length] ⟨[1,3,4],[.s .b .u],[.e .a (.p (.p (.n .a) .u) (.n .b)),.E .c .d,.T .o .b],.e .a (.p (.p (.n (.p .a .u)) .u) (.n .c))⟩) n B (List.length_pos_of_mem i:0<c.length)
 ·intro C E;refine aB (List.mem_append.mp E) (λE=>?_) (λE=>?_);·refine nk (a.i C E) λF G H J=>?_;exact oK F G H (λu w=>J u (v w))
  ·rw[bc]at E;subst E;exact oK r s t (λu w A=>x w (a.inj u (v w) j i A))
 ·refine List.nodup_append.mpr ⟨a.d,by simp,λL M N O A=>?_⟩;rw[bc]at O;exact(a.i L M).2.2.2 j i (by refine A.symm▸?_;exact O▸rfl)
 ·rw[v_,if_neg (by exact(Y [d j] [] ⟨[1],[.m .a 16],[.t (.k 512) .a,.e .c .o],.N (.e (.k 512) .a)⟩) r s)];exact a.h0
 ·intro u w;rw[v_,if_neg (λA=>x w (a.inj u (v w) j i A))];exact a.hm u (v w)
 ·have:=wc b.ws (d j/4) (wd 1);exact((Y [] [b.ws.length,g,(mi b.ws (d j/4) (wd 1)).length] ⟨[1,3],[],[.L .a .b,.L .c (.p .a (.k 4))],.L .c (.p .b (.k 4))⟩) p this:(mi b.ws (d j/4) (wd 1)).length<=g+4)
 ·have:=Bf (d j) b.f;exact((Y [] [b.f.length,g,(mH (d j) b.f).length] ⟨[1,3],[],[.L .a .b,.L .c .a],.L .c (.p .b (.k 4))⟩) q this:(mH (d j) b.f).length<=g+4)
section
structure WI(ws:List (Int×Int))(o b:List (Int×Int×Int))(m:List Int)(tb:Int->Int):Prop where
 e:∀f x,lz f b=Z x->lI ws (128+f)=lF x
 a:∀f∈m,lI ws (128+f)=tb f*64+1
 c:∀f,0<=f->f<4->lz f b=D->f∉m->lI ws (128+f)=0
 d:∀f∈m,∀s,0<=s->s<4->lI ws (tb f/4+s)=pI (lz (f*4+s) o)
structure MD(o b:List (Int×Int×Int))(m:List Int):Prop where
 c:∀k x,lz k o=Z x->0<=k/\k<16/\k/4∈m/\oy x.1 x.2
 a:∀k x,lz k b=Z x->0<=k/\k<4/\k∉m/\oy x.1 x.2/\x.1%64=0
 mg:∀f∈m,0<=f/\f<4
 ok:(o.map (·.1)).Nodup
 d:(b.map (·.1)).Nodup
structure l0(q:Q)(o b:List (Int×Int×Int))(m:List Int)(tb:Int->Int)(N:Nat):Prop where
 a:PI q m tb
 d:WI q.ws o b m tb
 c:MD o b m
 e:Len q N
noncomputable def oH(a:List (Int×Int×Int))(b:List Int)(c:Int->Int)(d:Int):rW:=match lz d a with|some e=>.b e.1 e.2|D=>if d∈b then .t (c d)else .n
noncomputable def mX(a:List (Int×Int×Int))(b c:Int):Option (Int×Int):=lz (b*4+c) a
section
variable{q:Q}{d h:List (Int×Int×Int)}{a:List Int}{c:Int->Int}{i:Nat}
theorem PI.nH(b:PI q a c)(d:f∈a):512<c f/\c f%16=0/\c f<=576:=by have e:=b.h f d;have g:=b.b;have h:=b.c2;refine oz ((Y [c f,q.e] [] ⟨[2,1,3,4],[.m .a 16],[.A (.t (.k 512) .a) (.A (.e .d .o) (.t .a (.p (.k 512) (.m 16 .b))))],.t (.k 512) .a⟩) e) ((Y [c f,q.e] [] ⟨[2,1,3,4],[.m .a 16],[.A (.t (.k 512) .a) (.A (.e .d .o) (.t .a (.p (.k 512) (.m 16 .b))))],.e .d .o⟩) e) ((Y [c f,q.e,q.lE] [] ⟨[5,1,4,3,2],[.m .a 16],[.A (.t (.k 512) .a) (.A (.e .e .o) (.t .a (.p (.k 512) (.m 16 .b)))),.l .b .c,.l .c (.k 5)],.l .a (.k 576)⟩) e g h)
theorem l0.g(b:l0 q d h a c i)(e:j∈a):yl q.ws (mX d j) (c j):=by intro f g k;refine n0 (b.d.d j e f g k) ?_;unfold mX;cases l:lz (j*4+f) d with|none=>exact trivial|some m=>exact(b.c.c _ m l).2.2.2
theorem l0.f(b:l0 q d h a c i):ym q.ws (oH h a c) (mX d):=by
 intro e f g;unfold oH;cases j:lz e h with|some k=>
  refine n0 ⟨b.d.e e k j,(b.c.a e k j).2.2.2.1,(b.c.a e k j).2.2.2.2⟩ (λl m=>by cases m)|none=>
  by_cases n:e∈a;·have:=b.a.nH n;simp only[n,if_true];refine⟨⟨b.d.a e n,qQ this,this.2.1⟩,λl m=>?_⟩;cases m;exact b.g n
  ·simp only[n,if_false];exact⟨b.d.c e f g j n,λl m=>by cases m⟩
theorem WI.rk(b:WI q.ws d h a c)(e:PI q a c)(f:MD d h a)(g:j∈a)(i:0<=s/\s<4)(k:l=pI m)(n:∀o,lz o p=if o=j*4+s then m else lz o d):WI (lJ q.ws (c j/4+s) l) p h a c:=by
 have r:=e.nH g;refine⟨λt u v=>?_,λt w=>?_,λt x y z A=>?_,λt w B x y=>?_⟩;·have:=f.a t u v;rw[ni,if_neg (by exact(Y [s,c j,t] [] ⟨[1,2,5,3,6,4],[.m .b 16,.d .b 4],[.A (.l .o .a) (.t .a (.k 4)),.A (.t (.k 512) .b) (.A (.e .e .o) (.l .b (.k 576))),.t .c (.k 4)],.N (.e (.p (.k 128) .c) (.p .f .a))⟩) i r this.2.1)];exact b.e t u v
 ·have:=f.mg t w;rw[ni,if_neg (by exact(Y [s,c j,t] [] ⟨[1,2,5,4,3,6],[.m .b 16,.d .b 4],[.A (.l .o .a) (.t .a (.k 4)),.A (.t (.k 512) .b) (.A (.e .e .o) (.l .b (.k 576))),.A (.l .o .c) (.t .c (.k 4))],.N (.e (.p (.k 128) .c) (.p .f .a))⟩) i r this)];exact b.a t w
 ·rw[ni,if_neg (by exact(Y [s,c j,t] [] ⟨[1,2,5,3,6,4],[.m .b 16,.d .b 4],[.A (.l .o .a) (.t .a (.k 4)),.A (.t (.k 512) .b) (.A (.e .e .o) (.l .b (.k 576))),.t .c (.k 4)],.N (.e (.p (.k 128) .c) (.p .f .a))⟩) i r y)];exact b.c t x y z A
 ·have C:=e.nH w;rw[ni,n];by_cases E:t=j
  ·refine E▸?_;by_cases F:B=s;·induction F;refine(if_pos rfl)▸?_;exact(if_pos rfl)▸k
   ·refine(if_neg (by exact(Y [B,s,c t] [] ⟨[1],[.d .c 4],[.N (.e .a .b)],.N (.e (.p .d .a) (.p .d .b))⟩) F))▸?_;exact(if_neg (by exact(Y [B,s,t] [] ⟨[1],[],[.N (.e .a .b)],.N (.e (.p (.w .c 4) .a) (.p (.w .c 4) .b))⟩) F))▸(b.d t w B x y)
  ·have G:c t≠c j:=λH=>E (e.inj t w j g H);refine(if_neg (by exact(Y [s,c j,B,c t] [] ⟨[1,2,6,4,8,3,9,10,5],[.m .b 16,.m .d 16,.d .d 4,.d .b 4],[.A (.l .o .a) (.t .a (.k 4)),.A (.t (.k 512) .b) (.A (.e .f .o) (.l .b (.k 576))),.l .o .c,.t .c (.k 4),.A (.t (.k 512) .d) (.A (.e .i .o) (.l .d (.k 576))),.N (.e .d .b)],.N (.e (.p .j .c) (.p (.x 9) .a))⟩) i r x y C G))▸?_;refine(if_neg (by exact(Y [s,B,t,j] [] ⟨[4,1,3,2],[],[.A (.l .o .a) (.t .a (.k 4)),.l .o .b,.t .b (.k 4),.N (.e .c .d)],.N (.e (.p (.w .c 4) .b) (.p (.w .d 4) .a))⟩) i x y E))▸?_;exact b.d t w B x y
theorem WI.b(b:WI q.ws d h a c)(e:PI q a c)(f:MD d h a)(g:j∉a)(i:0<=j/\j<4)(k:∀l,lz l m=if l=j then Z n else lz l h):WI (lJ q.ws (128+j) (lF n)) d m a c:=by
 refine⟨λo p r=>?_,λo s=>?_,λo t u v w=>?_,λo s x t u=>?_⟩
 ·rw[k]at r;rw[ni];by_cases y:o=j;·replace r:=(if_pos y)▸r;cases r;exact(if_pos (by exact(Y [o,j] [] ⟨[1],[],[.e .a .b],.e (.p (.k 128) .a) (.p (.k 128) .b)⟩) y))
  ·replace r:=(if_neg y)▸r;exact(if_neg (by exact rt y)).symm▸(b.e o p r)
 ·have z:o≠j:=λy=>g (y▸s);rw[ni,if_neg (by exact rt z)];exact b.a o s
 ·rw[k]at v;by_cases y:o=j;·rw[if_pos y]at v;exact nn v.symm
  ·rw[if_neg y]at v;rw[ni,if_neg (by exact rt y)];exact b.c o t u v w
 ·have A:=e.nH s;rw[ni,if_neg (by exact zh i t A)];exact b.d o s x t u
theorem WI.f(b:WI q.ws d h a c)(e:PI q a c)(f:MD d h a)(g:j∉a)(i:0<=j/\j<4)(k:lz j h=D)(l:512<m/\m<=576/\m%16=0)(n:∀j∈a,c j≠m)(o:∀p,lI r p=if m/4<=p/\p<=m/4+3 then 0 else lI q.ws p):WI (lJ r (128+j) (m*64+1)) d h (a++[j]) (upd c j m):=by
 have s:∀t∈a,t≠j:=λt u v=>g (v▸u);refine⟨λw x y=>?_,λw z=>?_,λw A B C E=>?_,λw z F A B=>?_⟩
 ·have z:=f.a w x y;have:w≠j:=λv=>by rw[v,k]at y;exact nn y
  rw[ni,if_neg (by exact rt this),o,if_neg (by exact(Y [m,w] [] ⟨[1,4,2,5,3],[.m .a 16,.d .a 4],[.A (.t (.k 512) .a) (.A (.l .a (.k 576)) (.e .d .o)),.t .b (.k 4)],.N (.A (.l .e (.p (.k 128) .b)) (.l (.p (.k 128) .b) (.p .e (.k 3))))⟩) l z.2.1)];exact b.e w x y
 ·refine aB (List.mem_append.mp z) (λG=>?_) (λG=>?_);·have H:=s w G;have:=f.mg w G;refine(rY (s w G))▸?_;rw[ni,if_neg (by exact rt H),o,if_neg (by exact(Y [m,w] [] ⟨[4,1,3,5,2],[.m .a 16,.d .a 4],[.A (.t (.k 512) .a) (.A (.l .a (.k 576)) (.e .d .o)),.A (.l .o .b) (.t .b (.k 4))],.N (.A (.l .e (.p (.k 128) .b)) (.l (.p (.k 128) .b) (.p .e (.k 3))))⟩) l this)];exact b.a w G
  ·rw[bc]at G;subst G;refine sR▸?_;rw[ni];exact(if_pos rfl)
 ·have J:w∉a:=λL=>E (eI _ L);rw[ni,if_neg (by exact rt (λL=>E (by refine L▸?_;simp):w≠j)),o,if_neg (by exact(Y [m,w] [] ⟨[1,4,2,5,3],[.m .a 16,.d .a 4],[.A (.t (.k 512) .a) (.A (.l .a (.k 576)) (.e .d .o)),.t .b (.k 4)],.N (.A (.l .e (.p (.k 128) .b)) (.l (.p (.k 128) .b) (.p .e (.k 3))))⟩) l B)];exact b.c w A B C J
 ·refine aB (List.mem_append.mp z) (λG=>?_) (λG=>?_);·have H:=e.nH G;have:=n w G;refine(rY (s w G))▸?_;rw[ni,if_neg (by exact zh i A H),o,if_neg (by exact(Y [m,F,c w] [] ⟨[7,2,5,1,9,3,8,4,6],[.m .a 16,.m .c 16,.d .a 4,.d .c 4],[.A (.t (.k 512) .a) (.A (.l .a (.k 576)) (.e .e .o)),.l .o .b,.t .b (.k 4),.A (.t (.k 512) .c) (.A (.e .h .o) (.l .c (.k 576))),.N (.e .c .a)],.N (.A (.l .i (.p .j .b)) (.l (.p .j .b) (.p .i (.k 3))))⟩) l A B H this)];exact b.d w G F A B
  ·rw[bc]at G;induction G;refine sR▸?_;rw[ni,if_neg (by exact(Y [m,F,w] [] ⟨[1,5,2,3,6,4],[.m .a 16,.d .a 4],[.A (.t (.k 512) .a) (.A (.l .a (.k 576)) (.e .e .o)),.l .o .b,.A (.l .o .c) (.t .c (.k 4))],.N (.e (.p .f .b) (.p (.k 128) .c))⟩) l A i),o,if_pos (by exact(Y [F,m] [] ⟨[2,1],[.d .b 4],[.l .o .a,.t .a (.k 4)],.A (.l .c (.p .c .a)) (.l (.p .c .a) (.p .c (.k 3)))⟩) A B)];cases M:lz (w*4+F) d with|none=>rfl|some L=>
    have:=(f.c _ L M).2.2.1;have v:(w*4+F)/4=w:=by exact(Y [F,w] [] ⟨[2,1],[.d (.p (.w .b 4) .a) 4],[.l .o .a,.t .a (.k 4)],.e .c .b⟩) A B
    rw[v]at this;exact(g this).elim
theorem WI.g(b:WI q.ws d h a c)(e:PI q a c)(f:MD d h a)(g:j∈a):WI (mi (lJ q.ws (128+j) 0) (c j/4) k) d h (a.erase j) c:=by
 have i:=e.nH g;have l:∀{m},m∈a.erase j->m∈a:=λn=>ez n;have o:∀{m},m∈a.erase j->m≠j:=λn=>((e.c.mem_erase_iff).mp n).1;refine⟨λp r s=>?_,λp t=>?_,λp u v w x=>?_,λp t y u v=>?_⟩;·have t:=f.a p r s;have:p≠j:=λz=>t.2.2.1 (z▸g);rw[sK,if_neg (by exact(Y [c j,p] [] ⟨[1,4,2,5,3],[.m .a 16,.d .a 4],[.A (.t (.k 512) .a) (.A (.e .d .o) (.l .a (.k 576))),.t .b (.k 4)],.N (.A (.l .e (.p (.k 128) .b)) (.l (.p (.k 128) .b) (.p .e (.k 3))))⟩) i t.2.1),ni,if_neg (by exact rt this)];exact b.e p r s
 ·have A:=o t;have:=f.mg p (l t);rw[sK,if_neg (by exact(Y [c j,p] [] ⟨[4,1,3,5,2],[.m .a 16,.d .a 4],[.A (.t (.k 512) .a) (.A (.e .d .o) (.l .a (.k 576))),.A (.l .o .b) (.t .b (.k 4))],.N (.A (.l .e (.p (.k 128) .b)) (.l (.p (.k 128) .b) (.p .e (.k 3))))⟩) i this),ni,if_neg (by exact rt A)];exact b.a p (l t)
 ·rw[sK,if_neg (by exact(Y [c j,p] [] ⟨[1,4,2,5,3],[.m .a 16,.d .a 4],[.A (.t (.k 512) .a) (.A (.e .d .o) (.l .a (.k 576))),.t .b (.k 4)],.N (.A (.l .e (.p (.k 128) .b)) (.l (.p (.k 128) .b) (.p .e (.k 3))))⟩) i v),ni];by_cases z:p=j;·exact(if_pos (by exact(Y [p,j] [] ⟨[1],[],[.e .a .b],.e (.p (.k 128) .a) (.p (.k 128) .b)⟩) z))
  ·refine(if_neg (by exact rt z)).symm▸?_;exact b.c p u v w (λB=>x ((e.c.mem_erase_iff).mpr ⟨z,B⟩))
 ·have C:=l t;have E:=e.nH C;rw[sK,if_neg (by exact(Y [c j,y,c p] [] ⟨[7,2,5,1,9,3,8,4,6],[.m .a 16,.m .c 16,.d .a 4,.d .c 4],[.A (.t (.k 512) .a) (.A (.e .e .o) (.l .a (.k 576))),.l .o .b,.t .b (.k 4),.A (.t (.k 512) .c) (.A (.e .h .o) (.l .c (.k 576))),.N (.e .c .a)],.N (.A (.l .i (.p .j .b)) (.l (.p .j .b) (.p .i (.k 3))))⟩) i u v E (λz=>o t (e.inj p C j g z):c p≠c j)),ni,if_neg (by exact zh (f.mg j g) u E)];exact b.d p C y u v
theorem Sn(a:l9 b=I):b<1024:=by unfold l9 at a;simp only[aJ,decide_eq_true_eq]at a;exact a.1
theorem yt(a:0<=b/\b<4096)(c:b%16=0)(d:0<=e)(f:l9 e=I):oy b (ai e 1):=by
 have g:=Sn f;refine nk (x_ (a:=e) ⟨d,g⟩) λh i j k=>?_;unfold l9 at f;simp only[aJ,dZ]at f;rw[sO];refine yS a c (wP d g) (Y [e] [] ⟨[1,5,3,2],[.m .a 2,.m (.s (.p .a .u) .c) 2],[],.e .e .u⟩) ?_ ?_;·rw[i];exact f.2.1
 ·rw[h];exact f.2.2
theorem MD.b(b:MD d h a)(c:0<=f/\f<16)(e:∀g∈a,g∈j)(i:f/4∈j)(k:oy l.1 l.2)(m:∀n o,lz n h=Z o->n∉j)(p:∀g∈j,0<=g/\g<4):MD (mc f l d) h j:=by
 refine⟨λn o q=>?_,λn o q=>?_,p,Hk _ _ _ b.ok,b.d⟩
 ·rw[rV]at q;by_cases r:n=f;·replace q:=(if_pos r)▸q;cases q;refine r▸?_;exact oK c.1 c.2 i k
  ·rw[if_neg r]at q;refine nk (b.c n o q) λs t u v=>?_;exact oK s t (e _ u) v
 ·refine nc (b.a n o q) λs t u v w=>?_;exact qp s t (m n o q) v w
theorem MD.e(b:MD d h a):MD (mH f d) h a:=by
 refine⟨λc e g=>?_,b.a,b.mg,Sl _ _ b.ok,b.d⟩;rw[v_]at g;by_cases i:c=f;·rw[if_pos i]at g;exact nn g
 ·rw[if_neg i]at g;exact b.c c e g
theorem MD.p8(b:MD d h a)(c:0<=f/\f<4)(e:f∉a)(g:oy j.1 j.2)(i:j.1%64=0):MD d (mc f j h) a:=by
 refine⟨b.c,λk l m=>?_,b.mg,b.ok,Hk _ _ _ b.d⟩;rw[rV]at m;by_cases n:k=f;·replace m:=(if_pos n)▸m;cases m;refine n▸?_;exact qp c.1 c.2 e g i
 ·rw[if_neg n]at m;exact b.a k l m
theorem MD.cut(b:MD d h a)(c:a.Nodup)(e:∀f,0<=f->f<4->lz (g*4+f) d=D):MD d h (a.erase g):=by
 refine⟨λi j k=>?_,λi j k=>?_,λl m=>b.mg l (ez m),b.ok,b.d⟩
 ·refine nk (b.c i j k) λn o p q=>?_;refine oK n o ((c.mem_erase_iff).mpr ⟨λr=>?_,p⟩) q;have:=e (i%4) ((Y [i,g] [] ⟨[1,3,4],[.m .a 4],[.e .c .b],.l .o .d⟩) r) ((Y [i,g] [] ⟨[1,3,4],[.m .a 4],[.e .c .b],.t .d (.k 4)⟩) r);have s:g*4+i%4=i:=by exact(Y [i,g] [] ⟨[1,3],[.m .a 4],[.e .c .b],.e (.p (.w .b 4) .d) .a⟩) r
  rw[s,k]at this;exact nn this.symm
 ·refine nc (b.a i j k) λn o p q t=>?_;exact qp n o (λu=>p (ez u)) q t
end
end
section
structure rZ(q q':Q):Prop where
 c:q'.lE=q.lE
 o:q'.b=q.b
 b:q'.c=q.c
 m:q'.a=q.a
section
variable{a:Q}{d f:List (Int×Int×Int)}{e:List Int}{c:Int->Int}{g:Nat}
theorem Len.up(b:Len a g)(c:g<=i):Len a i:=⟨ao b.w c,ao b.h c⟩
theorem l0.b(b:l0 a d f e c g)(i j)(k):l0 {a with b:=i,c:=j,a:=k} d f e c g:=⟨⟨b.a.c1,b.a.c2,b.a.e,b.a.b,b.a.h,b.a.inj,b.a.i,b.a.d,b.a.c,b.a.h0,b.a.hm⟩,b.d,b.c,⟨b.e.w,b.e.h⟩⟩
theorem PI.ws(b:PI a e c)(d):PI {a with ws:=d} e c:=⟨b.c1,b.c2,b.e,b.b,b.h,b.inj,b.i,b.d,b.c,b.h0,b.hm⟩
theorem l0.mlt(b:l0 a d f e c g):(e.length:Int)+1<=a.lE:=by have h:=b.a.e;have i:=b.a.b;exact(Y [a.e,a.lE] [a.d.length,e.length] ⟨[1,2,4,3],[],[.e .a (.p (.p (.n .a) .u) (.n .b)),.l .a .b],.l (.p (.n .b) .u) .b⟩) h i
noncomputable def uZ(d f:List (Int×Int×Int))(a b:Int):Int:=match lz a f with|some h=>lF h|D=>pI (lz b d)
theorem yu(b:l0 a d f e c g)(h:g<=4000)(i)(j:0<=k)(l:k<256)(m):Rs (m+30) 313 [.b 10,.a 512,.a k] a i (.a (uZ d f (k/64) (k/16))):=by
 have n:=b.e.w;unfold uZ;cases o:lz (k/64) f with|some p=>exact GT m a i k p.1 p.2 j l (mm h n rfl) (b.d.e _ p o) (b.c.a _ p o).2.2.2.1|none=>
  by_cases q:k/64∈e
  ·have r:=b.a.nH q;have s:=b.g q (k/16%4) zi zj;have t:k/64*4+k/16%4=k/16:=by exact zl
   unfold mX at s;rw[t]at s;exact GU m a i k (c (k/64)) (lz (k/16) d) j l (mm h n rfl) (b.d.a _ q) (qQ r) r.2.1 s.1 s.2
  ·have u:lz (k/16) d=D:=by
    cases v:lz (k/16) d with|none=>rfl|some p=>
     have:=(b.c.c _ p v).2.2.1;have t:k/16/4=k/64:=by exact wN
     rw[t]at this;exact(q this).elim
   refine u.symm▸?_;exact GS m a i k j l (mm h n rfl) (b.d.c _ (zm j) (zn l) o q)
noncomputable def qg(a b c e:Int)(d f:List (Int×Int×Int)):Bool:=!(l9 e)||(!(b==0)||(!(c%16==0)||(aE (15<a)||((lz a d).isSome||(lz (a/4) f).isSome))))
theorem So(b:l0 a d f e c g)(h:g<=4000)(i)(j:0<=k)(l:m=0\/m=5)(n:0<=o)(p:qg k m q o d f=I):∃r,∀s,Rz (s+110) 334 [.b 10,.a 512,.a (16*k+m),.a q,.a o] a i ⟨52,0⟩ a r:=by
 unfold qg at p;cases t:l9 o with|false=>exact⟨_,λs=>RI s a i _ _ o n t⟩|true=>
  by_cases u:(16*k+m)%16=0/\q%16=0
  ·by_cases v:15<k;·exact mf _ (λs=>RK s a i _ _ o n t u.1 u.2 ((Y [m,k,q] [] ⟨[4,6,7,5,1,3,2],[.m (.p (.m 16 .b) .a) 16,.m .c 16],[.O (.e .a .o) (.e .a (.k 5)),.A (.e .e .o) (.e .h .o),.t (.k 15) .b],.l (.k 256) (.p (.m 16 .b) .a)⟩) l u v))
   ·have w:m=0:=l.resolve_right λx=>absurd ((congrArg (·%16) x).symm.trans ((fE 16 k m).symm.trans u.1)) (by decide);cases w;have y:=λs=>yu b h i (k:=16*k+0) (t8 j) ((Y [k] [] ⟨[1],[],[.N (.t (.k 15) .a)],.t (.p (.m 16 .a) .o) (.k 256)⟩) v) s;have z:(16*k+0)/64=k/4:=by exact zo
    have A:(16*k+0)/16=k:=by exact(Y [k,q] [] ⟨[4,2,6,1],[.m (.p (.m 16 .a) .o) 16,.m .b 16],[.A (.e .d .o) (.e .f .o)],.e .c .a⟩) u
    rw[z,A]at y;unfold uZ at y;have B:(lz k d).isSome=I\/(lz (k/4) f).isSome=I:=by rw[t,(by rw[beq_iff_eq];exact u.2:(q%16==0)=I),(decide_eq_false v:aE (15<k)=ak)]at p;simpa using p
    refine mf _ (λs=>RL s a i _ _ o _ n t u.1 u.2 y ?_);cases C:lz (k/4) f with|some E=>exact(nX (b:=E.1) (c:=E.2) (b.c.a _ E C).2.2.2.1).2.2.2.2.2.2.2.2|none=>rw[C]at B;cases F:lz k d with|none=>rw[F]at B;simp at B|some E=>exact(nX (b:=E.1) (c:=E.2) (b.c.c _ E F).2.2.2).2.2.2.2.2.2.2.2
  ·exact mf _ (λs=>RJ s a i _ _ o n t u)
theorem Hm(a:qg b h i j d f=ak):l9 j=I/\h=0/\i%16=0/\b<=15/\lz b d=D/\lz (b/4) f=D:=by unfold qg at a;simp only[gP,kV,beq_iff_eq,decide_eq_false_iff_not,i_,dy]at a;refine sX a λc e g k l m=>?_;exact yS c e g ((Y [b] [] ⟨[1],[],[.N (.t (.k 15) .a)],.l .a (.k 15)⟩) k) l m
theorem Sp(b:l0 a d f e c g)(h:g<=4000)(i)(j:0<=k)(l:0<=m)(n:qg k o p m d f=ak)(q:k/4∉e)(r:(e.length:Int)=a.lE-1):∃s,∀t,Rz (t+110) 334 [.b 10,.a 512,.a (16*k+o),.a p,.a m] a i ⟨83,0⟩ a s:=by
 refine sX (Hm n) λu v w x y z=>?_;subst v;have A:=b.a.e;have B:=b.a.c2;have C:=b.a.b;have E:=λt=>yu b h i (k:=16*k+0) (t8 j) (vi x) t;have F:(16*k+0)/64=k/4:=by exact zo
 have G:(16*k+0)/16=k:=by exact Y [k] [] ⟨[1],[.d (.p (.m 16 .a) .o) 16],[],.e .b .a⟩
 rw[F,G]at E;unfold uZ at E;rw[z,y]at E;have H:=λt=>RF t a i (16*k+0) _ (t8 j) (vi x) (mm h (b.e.w) rfl) (by refine F▸?_;exact b.d.c _ (zp j) ((Y [k] [] ⟨[1,2],[.d .a 4],[.l .a (.k 15)],.t .b (.k 4)⟩) x) z q) (λt=>Rn a i t ((Y [a.lE,a.e] [e.length,a.d.length] ⟨[1,2,3,4],[],[.e (.n .a) (.s .a .u),.e .b (.p (.p (.n .b) .u) (.n .a)),.l .b .a],.L .b (.k 4096)⟩) r A C) ((Y [a.lE,a.e] [e.length,a.d.length] ⟨[1,2],[],[.e (.n .a) (.s .a .u),.e .b (.p (.p (.n .b) .u) (.n .a)),.l .b .a],.t (.p (.s .a .b) (.n .b)) .u⟩) r A C));exact mf _ (λt=>RN t a i _ p m _ l u (zq G) w E H)
theorem Ho(b:l0 a d f e c g)(h:g<=3000)(i)(j:0<=k)(l:0<=m)(n:0<=o/\o<4096)(a0:qg k a3 o m d f=ak)(a4:k/4∈e\/(e.length:Int)+1<a.lE):∃p a5 q,(∀r,Rq (r+110) 334 [.b 10,.a 512,.a (16*k+a3),.a o,.a m] a i .g p q)/\rZ a p/\l0 p (mc k (o,ai m 1) d) f (if k/4∈e then e else e++[k/4]) a5 (g+10):=by
 refine sX (Hm a0) λs a6 t u a7 v=>?_;refine a6▸?_;have w:=b.e.w;have x:=λr=>yu b (lk h rfl) i (k:=16*k+0) (t8 j) (vi u) r;have y:(16*k+0)/64=k/4:=by exact zo
 have z:(16*k+0)/16=k:=by exact Y [k] [] ⟨[1],[.d (.p (.m 16 .a) .o) 16],[],.e .b .a⟩
 have A:(16*k+0)/16%4=k%4:=by exact(Y [k] [] ⟨[1,2,4,3,6],[.d (.p (.m 16 .a) .o) 16,.m .b 4,.m .a 4],[.e .b .a],.e .d .f⟩) z
 have a8:k/4*4+k%4=k:=by exact sg
 rw[y]at x;replace x:=z▸x;unfold uZ at x;replace x:=a7▸v▸x;have B:=yt n t l s;have a9:∀C,lz C (mc k (o,ai m 1) d)=if C=k/4*4+k%4 then Z (o,ai m 1)else lz C d:=λC=>by refine a8.symm▸?_;rw[rV]
 by_cases E:k/4∈e
 ·have F:=b.a.nH E;refine lp (G3 a i _ o m _ a i l s (zq z) t n x (λr=>RD r a i (16*k+0) (c (k/4)) (t8 j) (vi u) (mm h w rfl) (by refine y.symm▸?_;exact b.d.a _ E) (qQ F) F.2.1) ((Y [k,c (k/4)] [] ⟨[6,2,9,7,4,1,8,3,5],[.d (.p (.m 16 .a) .o) 16,.m .c 4,.m .a 4,.m .b 16],[.e .e .h,.A (.t (.k 512) .b) (.A (.e .j .o) (.l .b (.k 576)))],.A (.l .o (.p .b (.m 4 .e))) (.l (.p (.p .b (.m 4 .e)) (.k 4)) (.k 1024))⟩) A F) ((Y [k,c (k/4)] [] ⟨[1,3,5,2,9,11,4,10],[.d (.p (.m 16 .a) .o) 16,.m .c 4,.m .a 4,.m .b 16,.m (.p .b (.m 4 .e)) 4],[.e .e .h,.A (.t (.k 512) .b) (.A (.e .j .o) (.l .b (.k 576)))],.e (.x 10) .o⟩) A F) (mm h w rfl)) λq G=>?_;have H:(c (k/4)+4*((16*k+0)/16%4))/4=c (k/4)/4+k%4:=by exact(Y [k,c (k/4)] [] ⟨[1,3,5,2,9,4,10,11],[.d (.p (.m 16 .a) .o) 16,.m .c 4,.m .a 4,.m .b 16,.d (.p .b (.m 4 .e)) 4,.d .b 4],[.e .e .h,.A (.t (.k 512) .b) (.A (.e .j .o) (.l .b (.k 576)))],.e (.x 9) (.p (.x 10) .h)⟩) A F
  rw[H]at G;refine sa _ c q G ⟨rfl,rfl,rfl,rfl⟩ ?_;rw[if_pos E];refine⟨b.a.ws _,b.d.rk b.a b.c E wQ rfl a9,b.c.b ((Y [k] [] ⟨[1],[],[.l .o .a,.l .a (.k 15)],.A (.l .o .a) (.t .a (.k 16))⟩) j u) (λ_ J=>J) E B (λC L M=>(b.c.a C L M).2.2.1) b.c.mg,⟨?_,?_⟩⟩;·have:=pG a.ws (c (k/4)/4+k%4) (lF (o,ai m 1));exact(zr w this:(lJ a.ws (c (k/4)/4+k%4) (lF (o,ai m 1))).length<=_)
  ·exact(zt (b.e.h):a.f.length<=_)
 ·have b0:(e.length:Int)+1<a.lE:=by rcases a4 with J|J;exact(E J).elim;exact J
  refine gz λb1 b2=>?_;obtain⟨F,N,O,P,Q,b3,b4,b5,b6,c1,R,c2⟩:=Sm b.a i b.e (lk h rfl) E b0;have S:Q.length<=g+8:=b6.w;refine lp (RE a i (16*k+0) F {a with e:=N,d:=O,f:=P,ws:=Q} b3 (t8 j) (vi u) (mm h w rfl) (by refine y▸?_;exact b.d.c _ (zp j) ((Y [k] [] ⟨[1,2],[.d .a 4],[.l .a (.k 15)],.t .b (.k 4)⟩) u) v E) ((Y [F] [] ⟨[3,2,1],[.m .a 16],[.A (.t (.k 512) .a) (.A (.l .a (.k 576)) (.e .c .o))],.A (.l .o .a) (.l .a (.k 1000))⟩) R) R.2.2 ((Y [] [g,Q.length] ⟨[1,2],[],[.L .a (.k 3000),.L .b (.p .a (.k 8))],.L .b (.k 4096)⟩) h S) b4) λc3 c4=>?_;have c5:=pG Q (128+(16*k+0)/64) (F*64+1);refine lp (G3 a i _ o m _ {a with e:=N,d:=O,f:=P,ws:=lJ Q (128+(16*k+0)/64) (F*64+1)} c3 l s (zq z) t n x c4 ((Y [k,F] [] ⟨[6,2,9,7,4,1,8,3,5],[.d (.p (.m 16 .a) .o) 16,.m .c 4,.m .a 4,.m .b 16],[.e .e .h,.A (.t (.k 512) .b) (.A (.l .b (.k 576)) (.e .j .o))],.A (.l .o (.p .b (.m 4 .e))) (.l (.p (.p .b (.m 4 .e)) (.k 4)) (.k 1024))⟩) A R) ((Y [k,F] [] ⟨[1,3,5,2,9,11,4,10],[.d (.p (.m 16 .a) .o) 16,.m .c 4,.m .a 4,.m .b 16,.m (.p .b (.m 4 .e)) 4],[.e .e .h,.A (.t (.k 512) .b) (.A (.l .b (.k 576)) (.e .j .o))],.e (.x 10) .o⟩) A R) ((Y [] [g,Q.length,(lJ Q (128+(16*k+0)/64) (F*64+1)).length] ⟨[1,2,3],[],[.L .a (.k 3000),.L .b (.p .a (.k 8)),.L .c (.p .b .u)],.L .c (.k 4096)⟩) h S c5)) λq G=>?_;refine b2 ?_;have H:(F+4*((16*k+0)/16%4))/4=F/4+k%4:=by exact(Y [k,F] [] ⟨[1,3,5,2,9,4,10,11],[.d (.p (.m 16 .a) .o) 16,.m .c 4,.m .a 4,.m .b 16,.d (.p .b (.m 4 .e)) 4,.d .b 4],[.e .e .h,.A (.t (.k 512) .b) (.A (.l .b (.k 576)) (.e .j .o))],.e (.x 9) (.p (.x 10) .h)⟩) A R
  rw[H]at G;have c6:k/4∈e++[k/4]:=by simp
  have T:MD d f (e++[k/4]):=by
   refine⟨λC L M=>?_,λC L M=>?_,λd0 l=>?_,b.c.ok,b.c.d⟩;·refine nk (b.c.c C L M) λU V W X=>?_;exact oK U V (eI _ W) X
   ·refine nc (b.c.a C L M) λU V W X d1=>?_;refine qp U V (λJ=>?_) X d1;refine aB (List.mem_append.mp J) (λJ=>?_) (λJ=>?_);·exact W J
    ·rw[bc]at J;exact nn (v▸J▸M)
   ·refine aB (List.mem_append.mp l) (λJ=>?_) (λJ=>?_);·exact b.c.mg d0 J
    ·rw[bc]at J;exact(Y [k,d0] [] ⟨[2,3,1],[.d .a 4],[.l .o .a,.l .a (.k 15),.e .b .c],.A (.l .o .b) (.t .b (.k 4))⟩) j u J
  have d2:WI (lJ Q (128+(16*k+0)/64) (F*64+1)) d f (e++[k/4]) (upd c (k/4) F):=by exact y.symm▸(b.d.f b.a b.c E ((Y [k] [] ⟨[2,1],[.d .a 4],[.l .o .a,.l .a (.k 15)],.A (.l .o .b) (.t .b (.k 4))⟩) j u) v R c2 c1)
  have d3:=b5.ws (lJ Q (128+(16*k+0)/64) (F*64+1));have d4:=WI.rk (q:={a with e:=N,d:=O,f:=P,ws:=lJ Q (128+(16*k+0)/64) (F*64+1)}) d2 d3 T c6 (s:=k%4) wQ rfl a9;rw[sR]at d4;refine sa _ (upd c (k/4) F) q G ⟨rfl,rfl,rfl,rfl⟩ ?_;rw[if_neg E];refine⟨d3.ws _,d4,T.b ((Y [k] [] ⟨[1],[],[.l .o .a,.l .a (.k 15)],.A (.l .o .a) (.t .a (.k 16))⟩) j u) (λ_ J=>J) c6 B (λC L M=>(T.a C L M).2.2.1) T.mg,⟨?_,?_⟩⟩;·have:=pG (lJ Q (128+(16*k+0)/64) (F*64+1)) (F/4+k%4) (lF (o,ai m 1));exact((Y [] [Q.length,g,(lJ Q (128+(16*k+0)/64) (F*64+1)).length,(lJ (lJ Q (128+(16*k+0)/64) (F*64+1)) (F/4+k%4) (lF (o,ai m 1))).length] ⟨[1,3,4],[],[.L .a (.p .b (.k 8)),.L .c (.p .a .u),.L .d (.p .c .u)],.L .d (.p .b (.k 10))⟩) S c5 this:(lJ (lJ Q (128+(16*k+0)/64) (F*64+1)) (F/4+k%4) (lF (o,ai m 1))).length<=_)
  ·exact((Y [] [P.length,g] ⟨[1],[],[.L .a (.p .b (.k 8))],.L .a (.p .b (.k 10))⟩) (b6.h:P.length<=g+8):P.length<=_)
theorem tP(b:l0 a d f e c g)(h:g<=4000)(i)(j:0<=k/\k<=16):(lz k d=D->∃l,∀m,Rz (m+100) 348 [.b 10,.a 512,.a (16*k)] a i ⟨52,0⟩ a l)/\(∀n,lz k d=Z n->k/4∈e/\k<16/\∀m,Rs (m+100) 348 [.b 10,.a 512,.a (16*k)] a i (.a (c (k/4)+4*(k%4)))):=by
 have o:=b.e.w;have p:16*k/64=k/4:=by exact Y [k] [] ⟨[2,1],[.d (.m 16 .a) 64,.d .a 4],[],.e .b .c⟩
 have q:16*k/16%4=k%4:=by exact Y [k] [] ⟨[1,2,4,6,5,3],[.d (.m 16 .a) 16,.m .b 4,.m .a 4],[],.e .d .f⟩
 have r:k/4*4+k%4=k:=by exact sg
 constructor
 ·intro s;by_cases t:k=16;·exact⟨_,λm=>G5 m a i _ _ _ (λm=>RA m a i _ ((Y [k] [] ⟨[1],[],[.e .a (.k 16)],.l (.k 256) (.m 16 .a)⟩) t))⟩
  ·cases u:lz (k/4) f with|some v=>exact mf _ (λm=>G5 m a i _ _ _ (λm=>RC m a i _ v.1 v.2 (wR j) (zu j t) (mm h o rfl) (by refine p▸?_;exact b.d.e _ v u) (b.c.a _ v u).2.2.2.1))|none=>
    by_cases w:k/4∈e
    ·have x:=b.a.nH w;have y:=λm=>G2 m a i (16*k) (c (k/4)) (wR j) (zu j t) (mm h o rfl) (by refine p.symm▸?_;exact b.d.a _ w) (qQ x) x.2.1;have z:=b.d.d _ w (k%4) s7 s8;replace z:=r▸z;rw[s]at z;have A:(c (k/4)+4*(16*k/16%4))/4=c (k/4)/4+k%4:=by exact(Y [k,c (k/4)] [] ⟨[1,3,5,2,9,4,10,11],[.d (.m 16 .a) 16,.m .c 4,.m .a 4,.m .b 16,.d (.p .b (.m 4 .e)) 4,.d .b 4],[.e .e .h,.A (.t (.k 512) .b) (.A (.e .j .o) (.l .b (.k 576)))],.e (.x 9) (.p (.x 10) .h)⟩) q x
     exact mf _ (λm=>RT m a i _ _ y ((Y [k,c (k/4)] [] ⟨[6,2,9,7,4,1,8,3,5],[.d (.m 16 .a) 16,.m .c 4,.m .a 4,.m .b 16],[.e .e .h,.A (.t (.k 512) .b) (.A (.e .j .o) (.l .b (.k 576)))],.A (.l .o (.p .b (.m 4 .e))) (.l (.p (.p .b (.m 4 .e)) (.k 4)) (.k 1024))⟩) q x) ((Y [k,c (k/4)] [] ⟨[1,3,5,7,2,9,12,4,11,10],[.d (.m 16 .a) 16,.m .c 4,.m .a 4,.m .b 16,.d .b 4,.m (.p .b (.m 4 .e)) 4],[.e .e .h,.A (.t (.k 512) .b) (.A (.e .j .o) (.l .b (.k 576))),.e (.x 10) (.p (.x 9) .h)],.e (.x 11) .o⟩) q x A) (mm h o rfl) (by refine A▸?_;exact z))
    ·exact mf _ (λm=>RS m a i _ (λm=>RB m a i _ (wR j) (zu j t) (mm h o rfl) (by refine p▸?_;exact b.d.c _ ((Y [k] [] ⟨[2,1],[.d .a 4],[.A (.l .o .a) (.l .a (.k 16))],.l .o .b⟩) j) ((Y [k] [] ⟨[2,1],[.d .a 4],[.A (.l .o .a) (.l .a (.k 16)),.N (.e .a (.k 16))],.t .b (.k 4)⟩) j t) u w)))
 ·intro n s;refine nk (b.c.c k n s) λB C w E=>?_;refine oz w C ?_;have x:=b.a.nH w;have y:=λm=>G2 m a i (16*k) (c (k/4)) (wR j) ((Y [k] [] ⟨[1],[],[.A (.l .o .a) (.l .a (.k 16)),.t .a (.k 16)],.t (.m 16 .a) (.k 256)⟩) j C) (mm h o rfl) (by refine p.symm▸?_;exact b.d.a _ w) (qQ x) x.2.1;have z:=b.d.d _ w (k%4) s7 s8;rw[r,s]at z;replace y:=q▸y;have A:(c (k/4)+4*(k%4))/4=c (k/4)/4+k%4:=by exact vj x
  intro m;exact RU m a i _ _ y (vk x) ((Y [c (k/4),k] [] ⟨[1,4,2,6,9,8,7],[.m .a 16,.m .b 4,.d .a 4,.m (.p .a (.m 4 .f)) 4],[.A (.t (.k 512) .a) (.A (.e .d .o) (.l .a (.k 576))),.e .i (.p .h .f)],.e .j .o⟩) x A) (mm h o rfl) (by refine A▸?_;exact z▸((nX (b:=n.1) (c:=n.2) E).2.1))
theorem l0.h(b:l0 a d f e c g)(h:i/4∈e)(j:∀k,lz k l=if k=i then m else lz k d)(n:MD l f e):l0 {a with ws:=lJ a.ws (c (i/4)/4+i%4) (pI m)} l f e c (g+10):=by
 have o:i/4*4+i%4=i:=by exact sg
 refine⟨b.a.ws _,b.d.rk b.a b.c h wQ rfl (by refine o.symm▸?_;exact j),n,⟨?_,?_⟩⟩;·have:=pG a.ws (c (i/4)/4+i%4) (pI m);exact(zr (b.e.w) this:(lJ a.ws (c (i/4)/4+i%4) (pI m)).length<=_)
 ·exact(zt (b.e.h):a.f.length<=_)
theorem Sq(b:l0 a d f e c g)(h:g<=3000)(i)(j:0<=k/\k<=16)(l:m=0\/m=5)(n:lz k d=D):∃o,∀p,Rz (p+110) 355 [.b 10,.a 512,.a (16*k+m)] a i ⟨52,0⟩ a o:=by refine lp ((tP b (lk h rfl) i j).1 n) λo q=>?_;exact⟨_,λp=>RV p a i _ (16*k) (s9 l) o q⟩
theorem Sr(b:l0 a d f e c g)(h:g<=3000)(i)(j:0<=k/\k<=16)(l:m=0\/m=5)(n:lz k d=Z o):∃p q,(∀r,Rq (r+110) 355 [.b 10,.a 512,.a (16*k+m)] a i (.a o.1) p q)/\rZ a p/\l0 p (mH k d) f e c (g+10):=by
 refine mj ((tP b (lk h rfl) i j).2 o n) λs t u=>?_;have v:=b.a.nH s;have w:=b.e.w;have x:(c (k/4)+4*(k%4))/4=c (k/4)/4+k%4:=by exact vj v
 have y:k/4*4+k%4=k:=by exact sg
 have z:=b.d.d _ s (k%4) s7 s8;rw[y,n]at z;refine lp (RW a i (16*k+m) (16*k) _ o.1 o.2 (s9 l) u (vk v) (wS v) (mm h w rfl) (by refine x▸?_;exact z) (b.c.c _ o n).2.2.2) λq A=>?_;replace A:=x▸A;exact mh _ q A ⟨rfl,rfl,rfl,rfl⟩ (b.h (m:=D) s (λB=>v_ B k d) b.c.e)
theorem Ss(b:l0 a d f e c g)(h:g<=3000)(i)(j:0<=k/\k<=16)(l:m=0\/m=5)(n:0<=o)(p:¬(l9 o=I/\q%16=0/\(lz k d).isSome=I)):∃r,∀s,Rz (s+110) 370 [.b 10,.a 512,.a (16*k+m),.a q,.a o] a i ⟨52,0⟩ a r:=by
 cases t:l9 o with|false=>exact⟨_,λs=>RX s a i _ _ o n t⟩|true=>
  by_cases u:q%16=0
  ·have v:lz k d=D:=by cases w:lz k d with|none=>rfl|some x=>exact(p ⟨t,u,by refine w▸?_;rfl⟩).elim
   refine lp ((tP b (lk h rfl) i j).1 v) λr y=>?_;exact mf _ (λs=>RZ s a i _ (16*k) q o n t u (s9 l) r y)
  ·exact⟨_,λs=>RY s a i _ _ o n t u⟩
theorem Su(b:l0 a d f e c g)(h:g<=3000)(i)(j:0<=k/\k<=16)(l:m=0\/m=5)(n:0<=o)(p:0<=q/\q<4096)(r:l9 o=I)(s:q%16=0)(t:lz k d=Z u):∃v w,(∀x,Rq (x+110) 370 [.b 10,.a 512,.a (16*k+m),.a q,.a o] a i (.a u.1) v w)/\rZ a v/\l0 v (mc k (q,ai o 1) d) f e c (g+10):=by
 refine mj ((tP b (lk h rfl) i j).2 u t) λy z A=>?_;have B:=b.a.nH y;have C:=b.e.w;have E:(c (k/4)+4*(k%4))/4=c (k/4)/4+k%4:=by exact vj B
 have F:k/4*4+k%4=k:=by exact sg
 have G:=b.d.d _ y (k%4) s7 s8;rw[F,t]at G;refine lp (R0 a i (16*k+m) (16*k) _ q o u.1 u.2 n r s p (s9 l) A (vk B) (wS B) (mm h C rfl) (by refine E▸?_;exact G) (b.c.c _ u t).2.2.2) λw H=>?_;rw[E]at H;exact mh _ w H ⟨rfl,rfl,rfl,rfl⟩ (b.h (m:=Z (q,ai o 1)) y (λJ=>rV J k _ d) (b.c.b ((Y [k] [] ⟨[1],[],[.A (.l .o .a) (.l .a (.k 16)),.t .a (.k 16)],.A (.l .o .a) (.t .a (.k 16))⟩) j z) (λ_ u=>u) y (yt p s n r) (λJ L M=>(b.c.a J L M).2.2.1) b.c.mg))
theorem Hp(b:l0 a d f e c g)(h:g<=3000)(i)(j:0<=k/\k<=16)(l:m=0\/m=5)(n:o∈[0,2,4,256,1,(10:Int)])(p:q∈[4,128,256,16,0,(2:Int)])(r:∀s,lz k d=Z s->l9 (lZ s.2 o q)=ak):∃t,∀u,Rz (u+110) 363 [.b 10,.a 512,.a (16*k+m),.a q,.a o] a i ⟨52,0⟩ a t:=by
 cases v:lz k d with|none=>
  refine lp ((tP b (lk h rfl) i j).1 v) λt w=>?_;exact⟨_,λu=>R3 u a i _ (16*k) q o (s9 l) t w⟩|some s=>
  refine mj ((tP b (lk h rfl) i j).2 s v) λx y w=>?_;have z:=b.a.nH x;have A:(c (k/4)+4*(k%4))/4=c (k/4)/4+k%4:=by exact vj z
  have B:k/4*4+k%4=k:=by exact sg
  have C:=b.d.d _ x (k%4) s7 s8;rw[B,v]at C;exact⟨_,λu=>R4 u a i (16*k+m) (16*k) q o _ s.1 s.2 (s9 l) w (vk z) (wS z) (mm h (b.e.w) rfl) (by refine A▸?_;exact C) (b.c.c _ s v).2.2.2 n p (r s v)⟩
theorem Sv(b:l0 a d f e c g)(h:g<=3000)(i)(j:0<=k/\k<=16)(l:m=0\/m=5)(n:o∈[0,2,4,256,1,(10:Int)])(p:q∈[4,128,256,16,0,(2:Int)])(r:lz k d=Z s)(t:l9 (lZ s.2 o q)=I):∃u v,(∀w,Rq (w+110) 363 [.b 10,.a 512,.a (16*k+m),.a q,.a o] a i (.a (lF (s.1,ai (lZ s.2 o q) 1))) u v)/\rZ a u/\l0 u (mc k (s.1,ai (lZ s.2 o q) 1) d) f e c (g+10):=by
 refine mj ((tP b (lk h rfl) i j).2 s r) λx y z=>?_;have A:=b.a.nH x;have B:=b.e.w;have C:(c (k/4)+4*(k%4))/4=c (k/4)/4+k%4:=by exact vj A
 have E:k/4*4+k%4=k:=by exact sg
 have F:=b.d.d _ x (k%4) s7 s8;rw[E,r]at F;have G:=(b.c.c _ s r).2.2.2;refine lp (R5 a i (16*k+m) (16*k) q o _ s.1 s.2 (s9 l) z (vk A) (wS A) (mm h B rfl) (by refine C▸?_;exact F) G n p t) λv H=>?_;rw[C]at H;exact mh _ v H ⟨rfl,rfl,rfl,rfl⟩ (b.h (m:=Z (s.1,ai (lZ s.2 o q) 1)) x (λJ=>rV J k _ d) (b.c.b ((Y [k] [] ⟨[1],[],[.A (.l .o .a) (.l .a (.k 16)),.t .a (.k 16)],.A (.l .o .a) (.t .a (.k 16))⟩) j y) (λ_ s=>s) x (yt G.1 G.2.1 (Bq s.1 s.2 o q G n p).2.2.2.1.1 t) (λJ L M=>(b.c.a J L M).2.2.1) b.c.mg))
noncomputable def sU(a b c d:Int)(f:List (Int×Int×Int))(e:List Int):Bool:=!(l9 d)||(!(b==0)||(!(c%64==0)||(aE (3<a)||(e.contains a||(lz a f).isSome))))
theorem Sw(b:l0 a d f e c g)(h:g<=3000)(i)(j:0<=k)(l:m=0\/m=5)(n:0<=o)(p:sU k m q o f e=I):∃r,∀s,Rz (s+110) 341 [.b 10,.a 512,.a (64*k+m),.a q,.a o] a i ⟨52,0⟩ a r:=by
 unfold sU at p;cases t:l9 o with|false=>exact⟨_,λs=>RO s a i _ _ o n t⟩|true=>
  by_cases u:(64*k+m)%64=0/\q%64=0
  ·by_cases v:3<k;·exact mf _ (λs=>RQ s a i _ _ o n t u.1 u.2 ((Y [m,k,q] [] ⟨[4,6,7,5,1,3,2],[.m (.p (.m 64 .b) .a) 64,.m .c 64],[.O (.e .a .o) (.e .a (.k 5)),.A (.e .e .o) (.e .h .o),.t (.k 3) .b],.l (.k 256) (.p (.m 64 .b) .a)⟩) l u v))
   ·have w:m=0:=l.resolve_right λx=>absurd ((congrArg (·%64) x).symm.trans ((fE 64 k m).symm.trans u.1)) (by decide);cases w;have y:=b.e.w;have z:(64*k+0)/64=k:=by exact(Y [k,q] [] ⟨[4,2,6,1],[.m (.p (.m 64 .a) .o) 64,.m .b 64],[.A (.e .d .o) (.e .f .o)],.e .c .a⟩) u
    have A:k∈e\/(lz k f).isSome=I:=by rw[t,(by rw[beq_iff_eq];exact u.2:(q%64==0)=I),(decide_eq_false v:aE (3<k)=ak)]at p;simpa using p
    cases B:lz k f with|some C=>exact mf _ (λs=>G4 s a i _ _ o (lF C) n t u.1 u.2 (zv j) (zw v) (mm h y rfl) (by refine z.symm▸?_;exact b.d.e _ C B) (nX (b:=C.1) (c:=C.2) (b.c.a _ C B).2.2.2.1).2.1)|none=>
     rw[B]at A;have E:k∈e:=by simpa using A
     have F:=b.a.nH E;exact⟨_,λs=>G4 s a i _ _ o (c k*64+1) n t u.1 u.2 (zv j) (zw v) (mm h y rfl) (by refine z.symm▸?_;exact b.d.a _ E) (rl (b:=c k) ((Y [c k] [] ⟨[3,2,1],[.m .a 16],[.A (.t (.k 512) .a) (.A (.e .c .o) (.l .a (.k 576)))],.A (.l .o .a) (.t .a (.k 4096))⟩) F) F.2.1).2.1⟩
  ·exact⟨_,λs=>RP s a i _ _ o n t u⟩
theorem Sx(b:l0 a d f e c g)(h:g<=3000)(i)(j:0<=k)(l:0<=m/\m<4096)(n:0<=o)(p:sU k q m o f e=ak):∃r s,(∀t,Rq (t+110) 341 [.b 10,.a 512,.a (64*k+q),.a m,.a o] a i .g r s)/\rZ a r/\l0 r d (mc k (m,ai o 1) f) e c (g+10):=by
 unfold sU at p;simp only[gP,kV,beq_iff_eq,decide_eq_false_iff_not,i_,dy]at p;refine sX p λu v w x y z=>?_;refine v▸?_;have A:k∉e:=by simpa using y
 have B:=b.e.w;have C:(64*k+0)/64=k:=by exact Y [k] [] ⟨[1],[.d (.p (.m 64 .a) .o) 64],[],.e .b .a⟩
 refine lp (RR a i (64*k+0) m o n u ((Y [k] [] ⟨[1,3],[.m (.p (.m 64 .a) .o) 64],[.e .b .a],.e .c .o⟩) C) w (zv j) (zw x) l (mm h B rfl) (by refine C.symm▸?_;exact b.d.c _ j ((Y [k] [] ⟨[1],[],[.N (.t (.k 3) .a)],.t .a (.k 4)⟩) x) z A)) λs E=>?_;rw[C]at E;refine⟨_,s,E,⟨rfl,rfl,rfl,rfl⟩,b.a.ws _,b.d.b b.a b.c A ((Y [k] [] ⟨[1],[],[.l .o .a,.N (.t (.k 3) .a)],.A (.l .o .a) (.t .a (.k 4))⟩) j x) (λF=>rV F k _ f),b.c.p8 ((Y [k] [] ⟨[1],[],[.l .o .a,.N (.t (.k 3) .a)],.A (.l .o .a) (.t .a (.k 4))⟩) j x) A (yt l ((Y [m] [] ⟨[1,3,5,2],[.m .a 64,.m .a 16],[.e .c .o],.e .e .o⟩) w) n u) w,⟨?_,?_⟩⟩;·have:=pG a.ws (128+k) (lF (m,ai o 1));exact(zr B this:(lJ a.ws (128+k) (lF (m,ai o 1))).length<=_)
 ·exact(zt (b.e.h):a.f.length<=_)
end
end
section
noncomputable def ma(a:List (Int×Int×Int))(b:Int):Bool:=l8.all λc=>(mX a b c).isNone
noncomputable def ml(a:List Int):List Int:=l8.filter λb=>a.contains b
theorem Hq(a)(b):(nQ b (mX a b)).isEmpty=ma a b:=by delta nQ ma l8;simp only[dv,List.flatMap_nil,jE,List.all_nil];cases mX a b 0<;>cases mX a b 1<;>cases mX a b 2<;>cases mX a b 3<;>rfl
theorem Hr(a:ma b c=I)(d)(e:0<=d)(f:d<4):lz (c*4+d) b=D:=by
 unfold ma l8 at a;simp only[jE,List.all_nil,jJ,aJ,dy]at a;refine nk a λg h i j=>?_;have:d=0\/d=1\/d=2\/d=3:=by exact(Y [d] [] ⟨[1],[],[.l .o .a,.t .a (.k 4)],.O (.e .a .o) (.O (.e .a .u) (.O (.e .a (.k 2)) (.e .a (.k 3))))⟩) e f
 refine aB this (λk=>?_) (λl=>aB l (λm=>?_) (λn=>aB n (λo=>?_) (λp=>?_)));·refine k▸?_;exact g
 ·refine m▸?_;exact h
 ·refine o▸?_;exact i
 ·refine p▸?_;exact j
theorem Hs(a:List (Int×Int×Int×Int))(b):mz .Eq (.c (a.map lW)) (.c []) b=.ok a.isEmpty b:=by induction a<;>rfl
noncomputable def qM(a:Int×Int)(b:Ro):Ro:=k9 34 (.a (.a a.2)) (k9 33 (.a (.a a.1)) b)
section
variable{b c:List (Int×Int×Int)}{a:Int->Int}
theorem Bt(d:MD b c e):(l8.flatMap λf=>wj f (oH c e a f))=(ml e).map λf=>(f,a f):=by
 have g:∀f,wj f (oH c e a f)=if e.contains f then[(f,a f)]else[]:=by
  intro f;unfold oH;cases h:lz f c with|some i=>
   have:=(d.a f i h).2.2.1;refine((by simpa using this:e.contains f=ak))▸?_;rfl|none=>
   by_cases j:f∈e
   ·have g:e.contains f=I:=by simpa using j
    simp only[j,if_true,g];rfl
   ·have g:e.contains f=ak:=by simpa using j
    simp only[j,if_false,g];rfl
 simp only[g];delta ml l8;simp only[dv,List.flatMap_nil,cq,List.filter_nil];cases e.contains 0<;>cases e.contains 1<;>cases e.contains 2<;>cases e.contains 3<;>rfl
theorem yw(a:d∈ml e):d∈e:=by have:=(List.mem_filter.mp a).2;simpa using this
theorem yx(d):(ml d).Nodup:=dC de (by decide:l8.Nodup)
theorem yz(a:d∈e)(b:0<=d/\d<4):d∈ml e:=by
 refine List.mem_filter.mpr ⟨?_,by simpa using a⟩;have:d=0\/d=1\/d=2\/d=3:=by exact(Y [d] [] ⟨[1],[],[.A (.l .o .a) (.t .a (.k 4))],.O (.e .a .o) (.O (.e .a .u) (.O (.e .a (.k 2)) (.e .a (.k 3))))⟩) b
 rcases this with rfl|rfl|rfl|rfl<;>decide
noncomputable def yA:List lT:=fb 1 (nM 398)
theorem Bu{d:List Int}(a:d.Nodup)(e)(f)(g:Int->Bool)(b:g e=I):(d.erase e).filter (λh=>!(f.contains h&&g h))=d.filter λh=>!((e::f).contains h&&g h):=by
 rw[a.erase_eq_filter,List.filter_filter];refine fQ λh _=>?_;rw[kW];by_cases c:h=e;·cases c;simp[b]
 ·have i:(h==e)=ak:=by simpa using c
  refine i▸?_;refine((by simpa using c:(h !=e)=I))▸?_;rw[jJ,jG]
theorem tQ(a:(34==d)=ak)(b:(33==d)=ak):kZ d (qM e f)=kZ d f:=(GW.nE _ _ a).trans (GW.nE _ _ b)
theorem Sy:∀(d:List Int)(e:Q)(f:Nat)(g:List Int)(h:Nat),l0 e b c g a h->d.Nodup->(∀i∈d,i∈g)->h+10*d.length<=3000->∃j k,(∀l m n,kZ 53 m=Z (.a (.b 10))->kZ 35 m=Z (.a (.a 512))->kZ 43 m=Z (.a (.a n))->∃o,mT (kX lj (l+100)) (.inr [33,34]) yA (d.map λi=>mv (i,a i)) m ⟨St e,f⟩=.ok (o,.a) ⟨St j,k⟩/\kZ 43 o=Z (.a (.a (n+(d.filter (ma b)).length))))/\rZ e j/\l0 j b c (g.filter λp=>!(d.contains p&&ma b p)) a (h+10*d.length):=by
 intro q;induction q with|nil=>
  intro e f g h r _ _ _;exact⟨e,f,λl m n _ _ a0=>⟨m,rfl,by refine ah a0 ?_;simp⟩,⟨rfl,rfl,rfl,rfl⟩,by have:g.filter (λp=>!(([]:List Int).contains p&&ma b p))=g:=List.filter_eq_self.mpr λ_ _=>rfl;refine this.symm▸?_;exact r⟩|cons i d s=>
  intro e f g h r a3 t u;refine lA (List.nodup_cons.mp a3) λa4 v=>?_;have w:=t i (aw ..);have x:=r.a.nH w;have y:=r.c.mg i w;have z:=r.e.w;have A:=λl=>G8 e f i (a i) (mX b i) y (qQ x) x.2.1 ((Y [] [h,d.length,e.ws.length] ⟨[2,1,3],[],[.L (.p .a (.m 10 (.p .b .u))) (.k 3000),.L .c .a],.L .c (.k 4096)⟩) u z) (r.g w) l;have B:=uW (b:=i) ⟨(Y [i] [] ⟨[1],[],[.A (.l .o .a) (.t .a (.k 4))],.t (.k (-1000000000000000)) .a⟩) y,(Y [i] [] ⟨[1],[],[.A (.l .o .a) (.t .a (.k 4))],.t .a (.k 1000000000000000)⟩) y⟩;have C:(512+4*i)/4=128+i:=by exact za
  cases E:ma b i with
  |true=>
   refine gz λa5 F=>?_;refine lp (tL e f (512+4*i) 0 ((Y [i] [] ⟨[1],[],[.A (.l .o .a) (.t .a (.k 4))],.l .o (.p (.k 512) (.m 4 .a))⟩) y) ((Y [i] [] ⟨[1],[],[.A (.l .o .a) (.t .a (.k 4))],.l (.p (.p (.k 512) (.m 4 .a)) (.k 4)) (.k 1024)⟩) y) ((Y [i] [] ⟨[1,3],[.m (.p (.k 512) (.m 4 .a)) 4],[.e .b (.p (.k 128) .a)],.e .c .o⟩) C) (by decide) (by decide) ((Y [] [h,d.length,e.ws.length] ⟨[2,1,3],[],[.L (.p .a (.m 10 (.p .b .u))) (.k 3000),.L .c .a],.L .c (.k 4096)⟩) u z)) λa6 G=>?_;rw[C]at G;refine mQ (Hl (r.a.ws (lJ e.ws (128+i) 0)) a6 (g:=h+1) ⟨(Y [] [e.ws.length,h,(lJ e.ws (128+i) 0).length] ⟨[1,3],[],[.L .a .b,.L .c (.p .a .u)],.L .c (.p .b .u)⟩) z (pG e.ws (128+i) 0),(Y [] [e.f.length,h] ⟨[1],[],[.L .a .b],.L .a (.p .b .u)⟩) (r.e.h)⟩ ((Y [] [h,d.length] ⟨[2,1],[],[.L (.p .a (.m 10 (.p .b .u))) (.k 3000)],.L (.p .a .u) (.k 4000)⟩) u) w) λH a7 a8 a9=>?_;refine lP (s _ H (g.erase i) (h+10) (⟨a8,WI.g (k:=wd 1) r.d r.a r.c w,r.c.cut r.a.c (Hr E),a9.up (Y [] [h] ⟨[],[],[],.L (.p (.p .a .u) (.k 4)) (.p .a (.k 10))⟩)⟩:l0 _ b c (g.erase i) a (h+10)) v (λp J=>(r.a.c.mem_erase_iff).mpr ⟨λL=>a4 (L▸J),t p (aq _ J)⟩) ((Y [] [h,d.length] ⟨[1],[],[.L (.p .a (.m 10 (.p .b .u))) (.k 3000)],.L (.p (.p .a (.k 10)) (.m 10 .b)) (.k 3000)⟩) u)) λj k N O P=>?_;refine F ?_;refine mh j k (λl m n R S T=>?_) ⟨O.c,O.o,O.b,O.m⟩ ?_
   ·refine ll (N l (k9 43 (.a (.a (n+1))) (qM (i,a i) m)) (n+1) ((GW.nE _ _ rfl).trans ((tQ rfl rfl).trans R)) ((GW.nE _ _ rfl).trans ((tQ rfl rfl).trans S)) (GW.nW _ _ _)) λo U W=>?_;refine lQ (o) ?_ ?_
    ·have X:lH (kX lj (l+100)) yA (qM (i,a i) m) ⟨St e,f⟩=.ok (k9 43 (.a (.a (n+1))) (qM (i,a i) m),.a) ⟨St {e with f:=mH (a i) e.f,d:=e.d++[a i],ws:=mi (lJ e.ws (128+i) 0) (a i/4) (wd 1)},H⟩:=by exact uT (GW.lu.k9 (GW.lu.k9 (la T (la S (la R lD))) (33) (LV.a (V.a (i,a i).fst))) (34) (LV.a (V.a (i,a i).snd))) [.v _ _ (A (l+57)),.t _ _ (@Hs (nQ i (mX b i)) ({σ:=St e,mu:=f})),.b _ _ (ah (@Hq (b) (i)) (E)),.o _ _ (B),.v _ _ (G (l+85)),.v _ _ (a7 (l+37))] (by kernel_rfl)
     exact(M.lO X).trans U
    ·refine ah W ?_;rw[cq,E,if_pos rfl,bE];congr 3;exact Y [n] [(fP (ma b) d).length] ⟨[],[],[],.e (.p (.p .a .u) (.n .a)) (.p .a (.n (.p .a .u)))⟩
   ·refine(Bu r.a.c i d (ma b) E)▸?_;refine bE▸?_;have L:h+10*(d.length+1)=h+10+10*d.length:=by exact Y [] [h,d.length] ⟨[],[],[],.E (.p .a (.m 10 (.p .b .u))) (.p (.p .a (.k 10)) (.m 10 .b))⟩
    rw[L];exact P|false=>
   refine gz λa5 F=>?_;refine lP (s e f g h r v (λp J=>t p (aq _ J)) ((Y [] [h,d.length] ⟨[1],[],[.L (.p .a (.m 10 (.p .b .u))) (.k 3000)],.L (.p .a (.m 10 .b)) (.k 3000)⟩) u)) λj k N O P=>?_;refine F ?_;refine mh j k (λl m n R S T=>?_) ⟨O.c,O.o,O.b,O.m⟩ ?_
   ·refine ll (N l (qM (i,a i) m) n ((tQ rfl rfl).trans R) ((tQ rfl rfl).trans S) ((tQ rfl rfl).trans T)) λo U W=>?_;refine lQ (o) ?_ ?_
    ·show(M.bind (lH (kX lj (l+100)) yA (qM (i,a i) m)) _ _)=_;have X:lH (kX lj (l+100)) yA (qM (i,a i) m) ⟨St e,f⟩=.ok (qM (i,a i) m,.a) ⟨St e,f⟩:=by exact uT (GW.lu.k9 (GW.lu.k9 (la T (la S (la R lD))) (33) (LV.a (V.a (i,a i).fst))) (34) (LV.a (V.a (i,a i).snd))) [.v _ _ (A (l+57)),.t _ _ (@Hs (nQ i (mX b i)) ({σ:=St e,mu:=f})),.b _ _ (ah (@Hq (b) (i)) (E))] (by kernel_rfl)
     exact(M.lO X).trans U
    ·refine ah W ?_;rw[cq,E,if_neg (by simp)]
   ·have L:(g.filter λp=>!((i::d).contains p&&ma b p))=g.filter λp=>!(d.contains p&&ma b p):=by
     refine fQ λp _=>?_;rw[kW];by_cases r:p=i;·cases r;refine E▸?_;simp
     ·have B:(p==i)=ak:=by simpa using r
      refine B▸?_;rw[jG]
    refine L▸?_;refine bE▸?_;exact⟨P.a,P.d,P.c,P.e.up (Y [] [h,d.length] ⟨[],[],[],.L (.p .a (.m 10 .b)) (.p .a (.m 10 (.p .b .u)))⟩)⟩
theorem Sz(d:l0 e b c f a g)(h:g<=2500)(i):∃j k,(∀l,Rq (l+110) 398 [.b 10,.a 512] e i (.a ((ml f).filter (ma b)).length) j k)/\rZ e j/\l0 j b c (f.filter λm=>!(ma b m)) a (g+40):=by
 have n:(ml f).length<=4:=bp ..;refine lP (Sy (ml f) e i f g d (yx f) (λo p=>yw p) ((Y [] [g,(ml f).length] ⟨[1,2],[],[.L .a (.k 2500),.L .b (.k 4)],.L (.p .a (.m 10 .b)) (.k 3000)⟩) h n)) λj k q r s=>?_;refine mh j k (λl=>?_) r ?_
 ·have t:=Br e i (oH c f a) (mX b) (by have:=d.e.w;exact mm h this rfl) d.f;replace t:=b_▸(Bt d.c)▸t;refine ll (q (l+8) [(53,.a (.b 10)),(35,.a (.a 512)),(43,.a (.a 0))] 0 rfl rfl rfl) λu v w=>?_;simp only[ef]at w;have x:lS (kX lj (l+108)) [(53,.a (.b 10)),(35,.a (.a 512)),(43,.a (.a 0))] ak 0 [.p (.b 53) 112 [.b 35]] ⟨St e,i⟩=.ok ((ml f).map λo=>mv (o,a o)) ⟨St e,i⟩:=by exact tH _ (l7 m8 [.v _ _ ((t) (l+67))] (by kernel_rfl))
  exact p_ m8 [.s _ _ _ _ _ (qa lj (x) (v)) (la w lD)] (by kernel_rfl)
 ·have y:(f.filter λm=>!((ml f).contains m&&ma b m))=f.filter λm=>!(ma b m):=by
   refine fQ λm z=>?_;have:(ml f).contains m=I:=by have:=yz z (d.c.mg m z);simpa using this
   refine this▸?_;rw[jI]
  refine y▸?_;exact⟨s.a,s.d,s.c,s.e.up ((Y [] [(ml f).length,g] ⟨[2,1],[],[.L .a (.k 4)],.L (.p .b (.m 10 .a)) (.p .b (.k 40))⟩) n)⟩
noncomputable def Ht:List lT:=[.g (.p (.q (.b 53) 68) 113 [.b 34])]
theorem SA:∀(d:List Int)(e:Q)(f:Nat)(g:List Int)(h:Nat),PI e g a->Len e h->d.Nodup->(∀i∈d,i∈g)->h+10*d.length<=3000->∃j k,(∀l m,kZ 53 m=Z (.a (.b 10))->kZ 35 m=Z (.a (.a 512))->∃n,mT (kX lj (l+100)) (.inr [33,34]) Ht (d.map λi=>mv (i,a i)) m ⟨St e,f⟩=.ok (n,.a) ⟨St j,k⟩/\kZ 53 n=Z (.a (.b 10))/\kZ 35 n=Z (.a (.a 512)))/\j.lE=e.lE/\PI j (g.filter λo=>!(d.contains o&&I)) a/\Len j (h+10*d.length):=by
 intro b;induction b with|nil=>
  intro e f g h c p _ _ _;exact⟨e,f,λl m q r=>⟨m,rfl,q,r⟩,rfl,by have:g.filter (λo=>!(([]:List Int).contains o&&I))=g:=List.filter_eq_self.mpr λ_ _=>rfl;refine this.symm▸?_;exact c,p⟩|cons i d s=>
  intro e f g h c p t u v;refine gz λw x=>?_;refine lA (List.nodup_cons.mp t) λy z=>?_;refine mQ (Hl c f p ((Y [] [h,d.length] ⟨[2,1],[],[.L (.p .a (.m 10 (.p .b .u))) (.k 3000)],.L .a (.k 4000)⟩) v) (u i (aw ..))) λA B C E=>?_;refine sY (s _ A (g.erase i) (h+10) C (E.up (Y [] [h] ⟨[],[],[],.L (.p .a (.k 4)) (.p .a (.k 10))⟩)) z (λo F=>(c.c.mem_erase_iff).mpr ⟨λG=>y (G▸F),u o (aq _ F)⟩) ((Y [] [h,d.length] ⟨[1],[],[.L (.p .a (.m 10 (.p .b .u))) (.k 3000)],.L (.p (.p .a (.k 10)) (.m 10 .b)) (.k 3000)⟩) v)) λj k H J L N=>?_;refine x ?_;refine t0 j k (λl m q r=>?_) J ?_ ?_
  ·refine gz λw x=>?_;refine mQ (H l (qM (i,a i) m) ((tQ rfl rfl).trans q) ((tQ rfl rfl).trans r)) λn O P R=>?_;refine x ?_;refine pQ (n) ?_ P R;have S:lH (kX lj (l+100)) Ht (qM (i,a i) m) ⟨St e,f⟩=.ok (qM (i,a i) m,.a) ⟨St {e with f:=mH (a i) e.f,d:=e.d++[a i],ws:=mi e.ws (a i/4) (wd 1)},A⟩:=by exact uT (GW.lu.k9 (GW.lu.k9 (la r (la q lD)) (33) (LV.a (V.a (i,a i).fst))) (34) (LV.a (V.a (i,a i).snd))) [.v _ _ (B (l+38))] (by kernel_rfl)
   exact(M.lO S).trans O
  ·exact(Bu c.c i d (λ_=>I) rfl)▸L
  ·exact bE▸(N.up (Y [] [h,d.length] ⟨[],[],[],.L (.p (.p .a (.k 10)) (.m 10 .b)) (.p .a (.m 10 (.p .b .u)))⟩))
theorem SC(d:l0 e b c f a g)(h:g<=2500)(i):∃j k,(∀l,Rq (l+110) 410 [.b 10,.a 512] e i .g j k)/\j.d.length<=10/\j.lE-j.e+j.d.length=e.lE:=by
 have m:(ml f).length<=4:=bp ..;refine sY (SA (ml f) e i f g d.a d.e (yx f) (λn o=>yw o) ((Y [] [g,(ml f).length] ⟨[1,2],[],[.L .a (.k 2500),.L .b (.k 4)],.L (.p .a (.m 10 .b)) (.k 3000)⟩) h m)) λp q r s t u=>?_;have v:(f.filter λw=>!((ml f).contains w&&I))=[]:=by
  rw[ee];intro w x;have:(ml f).contains w=I:=by have:=yz x (d.c.mg w x);simpa using this
  refine this.symm▸?_;simp
 replace t:=v▸t;have y:=t.c2;have z:=t.e;have A:=t.b;refine lp (GQ p q 512 (by decide) ((Y [p.lE] [] ⟨[1],[],[.l (.k 2) .a],.t (.k 512) (.p (.k 512) (.m 16 .a))⟩) (t.c1)) (by decide) (by decide) ((Y [] [g,(ml f).length,p.f.length] ⟨[1,2,3],[],[.L .a (.k 2500),.L .b (.k 4),.L .c (.p .a (.m 10 .b))],.L .c (.k 4096)⟩) h m (u.h)) t.h0 ((Y [p.lE,p.e] [p.d.length] ⟨[2,1,3],[],[.l .a (.k 5),.e .b (.p (.p (.n .a) .u) (.n .o)),.l .b .a],.L .a (.k 4096)⟩) y z A) ((Y [] [g,(ml f).length,p.ws.length] ⟨[1,2,3],[],[.L .a (.k 2500),.L .b (.k 4),.L .c (.p .a (.m 10 .b))],.L (.p .c (.k 4)) (.k 4096)⟩) h m (u.w))) λB C=>?_;refine mh ({p with f:=mH 512 p.f,d:=p.d++[512],ws:=mi p.ws (512/4) (wd 1)}) B (λl=>?_) ?_ ?_;rotate_left;·exact(aW▸gH▸((Y [p.lE,p.e] [p.d.length] ⟨[2,1,3],[],[.l .a (.k 5),.e .b (.p (.p (.n .a) .u) (.n .o)),.l .b .a],.L (.p .a .u) (.k 10)⟩) y z A))
 ·exact List.length_append.symm▸List.length_singleton.symm▸((Y [p.lE,e.lE,p.e] [p.d.length] ⟨[1,3],[],[.e .a .b,.e .c (.p (.p (.n .a) .u) (.n .o))],.e (.p (.s .a .c) (.n (.p .a .u))) .b⟩) s z)
 ·have E:=Br e i (oH c f a) (mX b) (by have:=d.e.w;exact mm h this rfl) d.f;rw[Bt d.c,b_]at E;refine mQ (r (l+8) [(53,.a (.b 10)),(35,.a (.a 512))] rfl rfl) λF G H J=>?_;have L:lS (kX lj (l+108)) [(53,.a (.b 10)),(35,.a (.a 512))] ak 0 [.p (.b 53) 112 [.b 35]] ⟨St e,i⟩=.ok ((ml f).map λn=>mv (n,a n)) ⟨St e,i⟩:=by exact tH _ (l7 m8 [.v _ _ ((E:∀l,Rs (l+40) 377 [.b 10,.a 512] e i (.c ((ml f).map λn=>mv (n,a n)))) (l+67))] (by kernel_rfl))
  exact p_ m8 [.s _ _ _ _ _ (qa lj (L) (G)) (la J (la H lD)),.v _ _ (C (l+47))] (by kernel_rfl)
end
end
section
theorem wk(a:List Int)(b:Int)(c:0<=b/\b<a.length)(d:a.length<=4096)(e):mS lj (.c (a.map .a)) (.a b) e=.ok (.a (a.getD b.toNat 0)) e:=by
 show M.c ((idx b (a.map V.a).length).bind λf=>(a.map V.a)[f]?) e=_;have g:b.toNat<a.length:=by exact(Y [b] [a.length] ⟨[1,2],[.t .a],[.A (.l .o .a) (.t .a (.n .a))],.T .b .a⟩) c
 rw[(by exact(if_pos (by simp;exact(Y [b] [a.length] ⟨[2,1],[],[.A (.l .o .a) (.t .a (.n .a)),.L .a (.k 4096)],.A (.l .o .a) (.l .a (.k 4096))⟩) c d)):idx b (a.map V.a).length=Z b.toNat)];show M.c ((a.map V.a)[b.toNat]?) e=_;rw[dt,a_,aI g];rfl
noncomputable def u1(a:Int):Int:=[0,0,0,(5:Int)].getD (a/8/17%4).toNat 0
noncomputable def wl(a:Int):Int:=[0,0,0,(3:Int)].getD (a/8/2720%4).toNat 0
noncomputable def u2(a:Int):Int:=[2,22,8,90,4,0,1026,(214:Int)].getD (a/8/10880%8).toNat 0
noncomputable def wm(a:Int):Int:=16*(a/8/68%40)+wl a
noncomputable def mD(a b c d e f:Int):V:=.e [.a a,.a b,.a c,.a d,.a e,.a f]
theorem SD(a:Int)(b:0<=a/\a<1000000000000)(c:Nat)(d):Rt (c+20) 845 [.a a] d (mD (a%8) (a/8%17) (u1 a) (wm a) (u2 a) (a/8/87040)) d:=by exact lq [.v _ _ ((λd=>wk [0,0,0,5] (a/8/17%4) ⟨Y [a] [] ⟨[3,1,2,5],[.d .a 8,.d .b 17,.m .c 4],[],.l .o .e⟩,Y [a] [] ⟨[3,1,2,5],[.d .a 8,.d .b 17,.m .c 4],[],.t .e (.k 4)⟩⟩ (by decide) d:∀d,mS lj (.c [.a 0,.a 0,.a 0,.a 5]) (.a (a/8/17%4)) d=.ok (.a (u1 a)) d) (d)),.v _ _ ((λd=>wk [0,0,0,3] (a/8/2720%4) ⟨Y [a] [] ⟨[3,1,2,5],[.d .a 8,.d .b 2720,.m .c 4],[],.l .o .e⟩,Y [a] [] ⟨[3,1,2,5],[.d .a 8,.d .b 2720,.m .c 4],[],.t .e (.k 4)⟩⟩ (by decide) d:∀d,mS lj (.c [.a 0,.a 0,.a 0,.a 3]) (.a (a/8/2720%4)) d=.ok (.a (wl a)) d) (d)),.v _ _ ((λd=>wk [2,22,8,90,4,0,1026,214] (a/8/10880%8) ⟨Y [a] [] ⟨[3,1,2,5],[.d .a 8,.d .b 10880,.m .c 8],[],.l .o .e⟩,Y [a] [] ⟨[3,1,2,5],[.d .a 8,.d .b 10880,.m .c 8],[],.t .e (.k 8)⟩⟩ (by decide) d:∀d,mS lj (.c [.a 2,.a 22,.a 8,.a 90,.a 4,.a 0,.a 1026,.a 214]) (.a (a/8/10880%8)) d=.ok (.a (u2 a)) d) (d)),.o _ _ ((wf (b:=a/8/68%40) ⟨Y [a] [] ⟨[3,1,2,5],[.d .a 8,.d .b 68,.m .c 40],[],.t (.k (-1000000000000000)) .e⟩,Y [a] [] ⟨[3,1,2,5],[.d .a 8,.d .b 68,.m .c 40],[],.t .e (.k 1000000000000000)⟩⟩))] (by kernel_rfl)
theorem wq(a:List Int)(b:Int->Prop)(c:b 0)(d:∀e∈a,b e)(f):b (a.getD f 0):=by rw[a_];cases g:a[f]? with|none=>exact c|some e=>exact d e (aH g)
theorem SG(a:Int):u1 a=0\/u1 a=5:=wq _ (λb=>b=0\/b=5) (.inl rfl) (by decide) _
theorem SH(a:Int):0<=wl a/\wl a<=3:=wq _ (λb=>0<=b/\b<=3) (by decide) (by decide) _
theorem SI(a:Int):0<=u2 a/\u2 a<2000:=wq _ (λb=>0<=b/\b<2000) (by decide) (by decide) _
theorem SJ(a):0<=wm a/\wm a<640:=by have:=SH a;exact(Y [wl a,a] [] ⟨[4,2,3,1,6],[.d .b 8,.d .c 68,.m .d 40],[.A (.l .o .a) (.l .a (.k 3))],.A (.l .o (.p (.m 16 .f) .a)) (.t (.p (.m 16 .f) .a) (.k 640))⟩) this
theorem Bv:∀a:List Int,nx (vL a)=Z a:=by intro b;induction b with|nil=>exact rfl|cons c a d=>show(nx (vL a)).map (c::·)=_;refine ah (congrArg _ d) ?_;rfl
section
variable(a:Q)(b:Nat)
theorem yB(c):mz .In (.a c) (.b 16) ⟨St a,b⟩=.ok (lz c a.b).isSome ⟨St a,b⟩:=by show R.ok (mL c (vP a.b)).isSome ⟨St a,b⟩=_;rw[rX,ip]
theorem tR(c):mz .NotIn (.a c) (.b 16) ⟨St a,b⟩=.ok (!(lz c a.b).isSome) ⟨St a,b⟩:=by show R.ok (!(mL c (vP a.b)).isSome) ⟨St a,b⟩=_;rw[rX,ip]
theorem r7(c):mz .In (.a c) (.b 17) ⟨St a,b⟩=.ok (lz c a.c).isSome ⟨St a,b⟩:=by show R.ok (mL c (vP a.c)).isSome ⟨St a,b⟩=_;rw[rX,ip]
theorem Bw(c):mz .In (.a c) (.b 18) ⟨St a,b⟩=.ok (a.a.contains c) ⟨St a,b⟩:=by show M.bind (M.c (nx (vL a.a))) (λd=>M.pure (d.contains c)) ⟨St a,b⟩=_;rw[Bv];rfl
theorem By(c):mz .NotIn (.a c) (.b 18) ⟨St a,b⟩=.ok (!a.a.contains c) ⟨St a,b⟩:=by show M.bind (mz .In (.a c) (.b 18)) (λd=>M.pure (!d)) ⟨St a,b⟩=_;rw[nF,Bw];rfl
theorem yC(c)(d e)(f:a.b.length<=4096):rD (.b 16) (.a c) (.e [.a d,.a e]) ⟨St a,b⟩=.ok () ⟨St {a with b:=mc c (d,e) a.b},b+1⟩:=by show(if(vP a.b).length<=4096 then R.ok () ⟨(St a).set 16 (.m (pT c (pV (d,e)) (vP a.b))),b+1⟩else R.b)=_;refine ah (if_pos (by rw[yr];exact f)) ?_;rw[Hj,Gn]
theorem SK(c)(d e)(f:a.c.length<=4096):rD (.b 17) (.a c) (.e [.a d,.a e]) ⟨St a,b⟩=.ok () ⟨St {a with c:=mc c (d,e) a.c},b+1⟩:=by show(if(vP a.c).length<=4096 then R.ok () ⟨(St a).set 17 (.m (pT c (pV (d,e)) (vP a.c))),b+1⟩else R.b)=_;refine ah (if_pos (by rw[yr];exact f)) ?_;rw[Hj,QC]
theorem SL(c)(d:a.a.length<=4096):vu lj 127 18 [.a c] ⟨St a,b⟩=.ok .g ⟨St {a with a:=a.a++[c]},b+1⟩:=by refine(ah (if_pos (by rw[tN];exact d)) ?_:(if(vL a.a).length<=4096 then R.ok V.g ⟨(St a).set 18 (.c (vL a.a++[.a c])),b+1⟩else .b)=_);rw[(by unfold vL;rw[dO];rfl:vL a.a++[.a c]=vL (a.a++[c])),Go]
theorem SN(c)(d:a.a.length<=4096)(e:a.a.contains c=I):vu lj 129 18 [.a c] ⟨St a,b⟩=.ok .g ⟨St {a with a:=a.a.erase c},b+1⟩:=by show(if(vL a.a).length<=4096 then(match nx (vL a.a)with|some f=>if f.contains c then R.ok V.g ⟨(St a).set 18 (.c (vL (f.erase c))),b+1⟩else .b|D=>.b)else .b)=_;refine ah (if_pos (by rw[tN];exact d)) ?_;rw[Bv];dsimp only;refine ah (if_pos e) ?_;rw[Go]
theorem wr(c:lz d a.b=Z e):mS lj (.b 16) (.a d) ⟨St a,b⟩=.ok (.e [.a e.1,.a e.2]) ⟨St a,b⟩:=by show M.c (mL d (vP a.b)) ⟨St a,b⟩=_;rw[rX,c];rfl
theorem Hu(c:lz d a.c=Z e):mS lj (.b 17) (.a d) ⟨St a,b⟩=.ok (.e [.a e.1,.a e.2]) ⟨St a,b⟩:=by show M.c (mL d (vP a.c)) ⟨St a,b⟩=_;rw[rX,c];rfl
theorem SR(c:lz d a.b=Z e)(f:a.b.length<=4096):qu lj 126 16 [.a d] ⟨St a,b⟩=.ok (.e [.a e.1,.a e.2]) ⟨St {a with b:=mH d a.b},b+1⟩:=by show(if(vP a.b).length<=4096 then(match mL d (vP a.b)with|some e=>R.ok e ⟨(St a).set 16 (.m (qU d (vP a.b))),b+1⟩|D=>R.b)else R.b)=_;refine ah (if_pos (by rw[yr];exact f)) ?_;rw[rX,c,Sk,Gn];rfl
end
noncomputable def pk:V:=.d [97,114,103,117,109,101,110,116]
noncomputable def wu:V:=.d [114,111,111,109]
theorem u3{a}(b:a.b c d e=.ok f e)(g:qv a c h e=.ok i e):qv a c (d::h) e=.ok (f||i) e:=by
 rw[QF,nF,b];induction f;·exact g
 ·rfl
theorem Hv{a}(b:a.b c d e=.ok f e)(g:a.b c h e=.ok i e)(j:a.b c k e=.ok l e)(m:a.b c n e=.ok o e)(p:a.b c q e=.ok r e)(s:a.b c t e=.ok u e):qv a c [d,h,k,n,q,t] e=.ok (f||(i||(l||(o||(r||u))))) e:=u3 b (u3 g (u3 j (u3 m (u3 p (Bool.or_false u▸u3 s (rfl:qv a c [] e=.ok ak e))))))
theorem yD(a:(b||(c||(d||(e||(f||g)))))=ak):(b=ak/\c=ak/\d=ak)/\e=ak/\f=ak/\g=ak:=have h:=Bool.or_eq_false_iff.mp a;have i:=Bool.or_eq_false_iff.mp h.2;have j:=Bool.or_eq_false_iff.mp i.2;have k:=Bool.or_eq_false_iff.mp j.2;⟨⟨h.1,i.1,j.1⟩,k.1,Bool.or_eq_false_iff.mp k.2⟩
theorem qh(a)(b)(c):Rt (b+7) 852 [.a a] c (.h (l9 a)) c:=QY a
section
variable(a:Q)(b:Nat)
theorem SS(c d e f)(g)(h)(i:kZ 25 h=Z (.a (.a f)))(j:kZ 91 h=Z (.a (.a d)))(k:kZ 58 h=Z (.a (.a e)))(l:kZ 38 h=Z (.a (.a c)))(m:kZ 27 h=Z (.a (.b 16)))(n:kZ 28 h=Z (.a (.b 17))):(kX lj (g+20)).b h (.g [.un .Not (.l 852 [.b 25]),.n (.b 91) [.NotEq] [.f (.a 0)],.n (.k .Mod (.b 58) (.f (.a 16))) [.NotEq] [.f (.a 0)],.n (.b 38) [.Gt] [.f (.a 15)],.n (.b 38) [.In] [.b 27],.n (.k .FloorDiv (.b 38) (.f (.a 4))) [.In] [.b 28]]) ⟨St a,b⟩=.ok (qg c d e f a.b a.c) ⟨St a,b⟩:=by exact Hv (oq (la n (la m (la l (la k (la j (la i lD)))))) [.v _ _ (@qh (f) (g+9) ({σ:=St a,mu:=b}))] (by kernel_rfl)) (oq (la n (la m (la l (la k (la j (la i lD)))))) [] (by kernel_rfl)) (oq (la n (la m (la l (la k (la j (la i lD)))))) [] (by kernel_rfl)) (oq (la n (la m (la l (la k (la j (la i lD)))))) [] (by kernel_rfl)) (oq (la n (la m (la l (la k (la j (la i lD)))))) [.t _ _ (@yB (a) (b) (c))] (by kernel_rfl)) (oq (la n (la m (la l (la k (la j (la i lD)))))) [.t _ _ (@r7 (a) (b) (c/4))] (by kernel_rfl))
theorem SU(c d e f g h i)(j:qg d e f g a.b a.c=I)(k):Rs (k+30) 859 [mD c d e f g h,.b 16,.b 17,.b 18,.a i] a b pk:=by have l:=λk=>SS a b d e f g k [(26,.a (.e [.a c,.a d,.a e,.a f,.a g,.a h])),(27,.a (.b 16)),(28,.a (.b 17)),(29,.a (.b 18)),(30,.a (.a i)),(89,.a (.a c)),(38,.a (.a d)),(91,.a (.a e)),(58,.a (.a f)),(25,.a (.a g)),(92,.a (.a h))] rfl rfl rfl rfl rfl rfl;replace l:=j▸l;exact(congrArg o5 (oV rfl (xr (Ge (l (k+8)) (xr rfl))))).trans rfl
theorem SV(c d e f g h i)(j:qg d e f g a.b a.c=ak)(k:a.a.contains (d/4)=ak)(l:a.a.length<=4096)(m:(a.a.length:Int)=i)(n):Rs (n+30) 859 [mD c d e f g h,.b 16,.b 17,.b 18,.a i] a b wu:=by have o:=yD j;exact lq [.v _ _ (@qh g (n+17) ⟨St a,b⟩),.b _ _ o.1.1,.b _ _ o.1.2.1,.b _ _ o.1.2.2,.b _ _ o.2.1,.t _ _ (@yB a b d),.b _ _ o.2.2.1,.t _ _ (@r7 a b (d/4)),.b _ _ o.2.2.2,.n,.t _ _ (@By a b (d/4)),.b _ _ (congrArg dF k),.v _ _ (Bm a b l),.b _ _ (m9 m)] (by kernel_rfl)
theorem SW(c d e f g h i)(j:qg d e f g a.b a.c=ak)(k:a.a.contains (d/4)=I)(l:a.b.length<=4096):∃m,∀n,Rq (n+30) 859 [mD c d e f g h,.b 16,.b 17,.b 18,.a i] a b .g {a with b:=mc d (f,ai g 1) a.b} m:=by refine⟨b+1,λn=>?_⟩;have o:=yD j;exact lq [.v _ _ (@qh g (n+17) ⟨St a,b⟩),.b _ _ o.1.1,.b _ _ o.1.2.1,.b _ _ o.1.2.2,.b _ _ o.2.1,.t _ _ (@yB a b d),.b _ _ o.2.2.1,.t _ _ (@r7 a b (d/4)),.b _ _ o.2.2.2,.n,.t _ _ (@By a b (d/4)),.b _ _ (congrArg dF k),.u _ _ (yC a b d f (ai g 1) l)] (by kernel_rfl)
theorem SX(c d e f g h i)(j:qg d e f g a.b a.c=ak)(k:a.a.contains (d/4)=ak)(l:a.b.length<=4096)(m:a.a.length<=4096)(n:¬(a.a.length:Int)=i):∃o,∀p,Rq (p+30) 859 [mD c d e f g h,.b 16,.b 17,.b 18,.a i] a b .g {a with b:=mc d (f,ai g 1) a.b,a:=a.a++[d/4]} o:=by refine⟨b+1+1,λp=>?_⟩;have q:=yD j;exact lq [.v _ _ (@qh g (p+17) ⟨St a,b⟩),.b _ _ q.1.1,.b _ _ q.1.2.1,.b _ _ q.1.2.2,.b _ _ q.2.1,.t _ _ (@yB a b d),.b _ _ q.2.2.1,.t _ _ (@r7 a b (d/4)),.b _ _ q.2.2.2,.n,.t _ _ (@By a b (d/4)),.b _ _ (congrArg dF k),.v _ _ (Bm a b m),.b _ _ (Qp n),.v _ _ (SL a b (d/4) m),.u _ _ (yC {a with a:=a.a++[d/4]} (b+1) d f (ai g 1) l)] (by kernel_rfl)
theorem SY(c d e f)(g)(h)(i:kZ 25 h=Z (.a (.a f)))(j:kZ 91 h=Z (.a (.a d)))(k:kZ 58 h=Z (.a (.a e)))(l:kZ 33 h=Z (.a (.a c)))(m:kZ 29 h=Z (.a (.b 18)))(n:kZ 28 h=Z (.a (.b 17))):(kX lj (g+20)).b h (.g [.un .Not (.l 852 [.b 25]),.n (.b 91) [.NotEq] [.f (.a 0)],.n (.k .Mod (.b 58) (.f (.a 64))) [.NotEq] [.f (.a 0)],.n (.b 33) [.Gt] [.f (.a 3)],.n (.b 33) [.In] [.b 29],.n (.b 33) [.In] [.b 28]]) ⟨St a,b⟩=.ok (sU c d e f a.c a.a) ⟨St a,b⟩:=by exact Hv (oq (la n (la m (la l (la k (la j (la i lD)))))) [.v _ _ (@qh (f) (g+9) ({σ:=St a,mu:=b}))] (by kernel_rfl)) (oq (la n (la m (la l (la k (la j (la i lD)))))) [] (by kernel_rfl)) (oq (la n (la m (la l (la k (la j (la i lD)))))) [] (by kernel_rfl)) (oq (la n (la m (la l (la k (la j (la i lD)))))) [] (by kernel_rfl)) (oq (la n (la m (la l (la k (la j (la i lD)))))) [.t _ _ (@Bw (a) (b) (c))] (by kernel_rfl)) (oq (la n (la m (la l (la k (la j (la i lD)))))) [.t _ _ (@r7 (a) (b) (c))] (by kernel_rfl))
noncomputable def qN(a:Int):Int:=4*(a-a%16)+a%16
noncomputable def SZ:ls:=.e [.k .Mod (.b 38) (.f (.a 5)),.k .Add (.k .Mult (.f (.a 4)) (.k .Sub (.b 58) (.k .Mod (.b 58) (.f (.a 16))))) (.k .Mod (.b 58) (.f (.a 16)))]
theorem S0(c d e f g h)(i:0<=f/\f<640)(j:sU (d%5) e (qN f) g a.c a.a=I)(k):Rs (k+30) 866 [mD c d e f g h,.b 16,.b 17,.b 18] a b pk:=by have l:=λk=>SY a b (d%5) e (qN f) g k [(26,.a (.e [.a c,.a d,.a e,.a f,.a g,.a h])),(27,.a (.b 16)),(28,.a (.b 17)),(29,.a (.b 18)),(89,.a (.a c)),(38,.a (.a d)),(91,.a (.a e)),(58,.a (.a (qN f))),(25,.a (.a g)),(92,.a (.a h)),(33,.a (.a (d%5)))] rfl rfl rfl rfl rfl rfl;replace l:=j▸l;have m:(kX lj (k+29)).ex [(26,.a (.e [.a c,.a d,.a e,.a f,.a g,.a h])),(27,.a (.b 16)),(28,.a (.b 17)),(29,.a (.b 18)),(89,.a (.a c)),(38,.a (.a d)),(91,.a (.a e)),(58,.a (.a f)),(25,.a (.a g)),(92,.a (.a h))] (.c [33,58] SZ) ⟨St a,b⟩=.ok (_,.a) ⟨St a,b⟩:=qJ (l7 m8 [.o _ _ (uW (b:=f-f%16) ⟨(Y [f] [] ⟨[1,2,3],[.m .a 16],[.A (.l .o .a) (.t .a (.k 640))],.t (.k (-1000000000000000)) (.s .a .c)⟩) i,(Y [f] [] ⟨[1,2,3],[.m .a 16],[.A (.l .o .a) (.t .a (.k 640))],.t (.s .a .c) (.k 1000000000000000)⟩) i⟩)] (by kernel_rfl):(kX lj (k+8+20)).ev _ _ _=.ok (.e [.a (d%5),.a (qN f)]) ⟨St a,b⟩);exact(congrArg o5 (oV rfl (oV m (xr (Ge (l (k+8)) (xr rfl)))))).trans rfl
theorem S4(c d e f g h)(i:0<=f/\f<640)(j:sU (d%5) e (qN f) g a.c a.a=ak)(k:a.c.length<=4096):∃l,∀m,Rq (m+30) 866 [mD c d e f g h,.b 16,.b 17,.b 18] a b .g {a with c:=mc (d%5) (qN f,ai g 1) a.c} l:=by refine⟨b+1,λm=>?_⟩;have n:=yD j;exact lq [.o _ _ (uW (b:=f-f%16) (sm ((Y [f] [] ⟨[1,2,3],[.m .a 16],[.A (.l .o .a) (.t .a (.k 640))],.l .o (.s .a .c)⟩) i) ((Y [f] [] ⟨[1,2,3],[.m .a 16],[.A (.l .o .a) (.t .a (.k 640))],.t (.s .a .c) (.k 10000000)⟩) i))),.v _ _ (@qh g (m+17) ⟨St a,b⟩),.b _ _ n.1.1,.b _ _ n.1.2.1,.b _ _ n.1.2.2,.b _ _ n.2.1,.t _ _ (@Bw a b (d%5)),.b _ _ n.2.2.1,.t _ _ (@r7 a b (d%5)),.b _ _ n.2.2.2,.n,.u _ _ (SK a b (d%5) (qN f) (ai g 1) k)] (by kernel_rfl)
theorem S5(c d e f g)(h:lz c a.b=D)(i):Rs (i+30) 873 [mD 3 c d e f g,.b 16,.b 17] a b pk:=by exact lq [.n,.n,.t _ _ (@tR (a) (b) (c)),.b _ _ (congrArg (λj=>!j.isSome) (h)),.y] (by kernel_rfl)
theorem S7(c d e f g)(h:lz c a.b=Z i)(j:a.b.length<=4096):∃k,∀l,Rq (l+30) 873 [mD 3 c d e f g,.b 16,.b 17] a b (.a i.1) {a with b:=mH c a.b} k:=by refine⟨b+1,λl=>?_⟩;exact lq [.n,.n,.t _ _ (@tR (a) (b) (c)),.b _ _ (congrArg (λm=>!m.isSome) (h)),.n,.v _ _ ((wr a b h)),.y,.v _ _ ((SR a b h j))] (by kernel_rfl)
theorem S8(c d e f g)(h:¬(l9 f=I/\e%16=0/\(lz c a.b).isSome=I))(i):Rs (i+30) 873 [mD 5 c d e f g,.b 16,.b 17] a b pk:=by
 cases j:l9 f with|false=>exact lq [.y,.v _ _ (@qh (f) (i+15) ({σ:=St a,mu:=b})),.b _ _ (congrArg dF (j)),.y,.y,.y] (by kernel_rfl)|true=>
  cases k:(e%16==0)with|false=>exact lq [.y,.v _ _ (@qh (f) (i+15) ({σ:=St a,mu:=b})),.b _ _ (congrArg dF (j)),.b _ _ (congrArg dF (k)),.y,.y,.y] (by kernel_rfl)|true=>
   have l:(lz c a.b).isSome=ak:=by cases m:(lz c a.b).isSome with|false=>rfl|true=>exact(h ⟨j,by simpa using k,m⟩).elim
   exact lq [.y,.v _ _ (@qh (f) (i+15) ({σ:=St a,mu:=b})),.b _ _ (congrArg dF (j)),.b _ _ (congrArg dF (k)),.n,.n,.t _ _ (@tR (a) (b) (c)),.b _ _ (congrArg dF (l)),.y] (by kernel_rfl)
theorem S9(c d e f g)(h:l9 f=I)(i:e%16=0)(j:lz c a.b=Z k)(l:a.b.length<=4096):∃m,∀n,Rq (n+30) 873 [mD 5 c d e f g,.b 16,.b 17] a b (.a k.1) {a with b:=mc c (e,ai f 1) a.b} m:=by refine⟨b+1,λn=>?_⟩;exact lq [.y,.v _ _ (@qh f (n+15) ⟨St a,b⟩),.b _ _ (congrArg dF h),.b _ _ (congrArg dF (m9 i)),.n,.n,.t _ _ (@tR a b c),.b _ _ (congrArg (λo=>!o.isSome) j),.n,.v _ _ (wr a b j),.n,.y,.u _ _ (yC a b c e (ai f 1) l)] (by kernel_rfl)
noncomputable def pO(a:Int):Int:=[4,128,256,16,0,(2:Int)].getD (a%6).toNat 0
noncomputable def pP(a:Int):Int:=[0,2,4,256,1,(10:Int)].getD (a/6%6).toNat 0
theorem yE(c:Int)(d:MS):mS lj (.c [.a 4,.a 128,.a 256,.a 16,.a 0,.a 2]) (.a (c%6)) d=.ok (.a (pO c)) d:=wk [4,128,256,16,0,2] (c%6) ⟨Y [c] [] ⟨[1,3],[.m .a 6],[],.l .o .c⟩,Y [c] [] ⟨[1,3],[.m .a 6],[],.t .c (.k 6)⟩⟩ (by decide) d
theorem yF(c:Int)(d:MS):mS lj (.c [.a 0,.a 2,.a 4,.a 256,.a 1,.a 10]) (.a (c/6%6)) d=.ok (.a (pP c)) d:=wk [0,2,4,256,1,10] (c/6%6) ⟨Y [c] [] ⟨[3,1,4,2],[.d .a 6,.m .b 6],[],.l .o .d⟩,Y [c] [] ⟨[3,1,4,2],[.d .a 6,.m .b 6],[],.t .d (.k 6)⟩⟩ (by decide) d
theorem S_(c d e f g)(h:lz c a.b=D)(i):Rs (i+30) 873 [mD 4 c d e f g,.b 16,.b 17] a b pk:=by exact lq [.n,.n,.t _ _ (@tR (a) (b) (c)),.b _ _ (congrArg (λj=>!j.isSome) (h)),.y] (by kernel_rfl)
theorem Ta(c d e f g)(h:lz c a.b=Z i)(j:l9 (lZ i.2 (pP g) (pO g))=ak)(k):Rs (k+30) 873 [mD 4 c d e f g,.b 16,.b 17] a b pk:=by exact lq [.n,.n,.t _ _ (@tR a b c),.b _ _ (congrArg (λl=>!l.isSome) h),.n,.v _ _ (wr a b h),.n,.n,.v _ _ (yE g ⟨St a,b⟩),.v _ _ (yF g ⟨St a,b⟩),.v _ _ (@qh (lZ i.2 (pP g) (pO g)) (k+18) ⟨St a,b⟩),.b _ _ (congrArg dF j)] (by kernel_rfl)
theorem Tb(c d e f g)(h:lz c a.b=Z i)(j:0<=i.1/\i.1<4096)(k:l9 (lZ i.2 (pP g) (pO g))=I)(l:a.b.length<=4096):∃m,∀n,Rq (n+30) 873 [mD 4 c d e f g,.b 16,.b 17] a b (.a (lF (i.1,ai (lZ i.2 (pP g) (pO g)) 1))) {a with b:=mc c (i.1,ai (lZ i.2 (pP g) (pO g)) 1) a.b} m:=by refine⟨b+1,λn=>?_⟩;exact lq [.n,.n,.t _ _ (@tR a b c),.b _ _ (congrArg (λo=>!o.isSome) h),.n,.v _ _ (wr a b h),.n,.n,.v _ _ (yE g ⟨St a,b⟩),.v _ _ (yF g ⟨St a,b⟩),.v _ _ (@qh (lZ i.2 (pP g) (pO g)) (n+18) ⟨St a,b⟩),.b _ _ (congrArg dF k),.u _ _ (yC a b c i.1 (ai (lZ i.2 (pP g) (pO g)) 1) l),.o _ _ (ya (b:=i.1/16) (sm (cV j.1 (by decide)) (bt (iW 16 j.1) (bH j.2 (by decide)))))] (by kernel_rfl)
end
end
section
section
variable{f j:MS}{g:V}(a c b d e:Int)
theorem nY(h:0<=a/\a<=16):lU .Mult (.a 16) (.a a)=Z (.a (16*a)):=wf (sm h.1 (bt h.2 (by decide)))
theorem Hw:lU .Mult (.a 64) (.a (a%5))=Z (.a (64*(a%5))):=GK (sm (bz _ (by decide)) (bH (bq _ (by decide)) (by decide)))
theorem Hx(a:0<=b/\b<640):lU .Mult (.a 4) (.a (b-b%16))=Z (.a (4*(b-b%16))):=uW (sm ((Y [b] [] ⟨[1,2,3],[.m .a 16],[.A (.l .o .a) (.t .a (.k 640))],.l .o (.s .a .c)⟩) a) ((Y [b] [] ⟨[1,2,3],[.m .a 16],[.A (.l .o .a) (.t .a (.k 640))],.t (.s .a .c) (.k 10000000)⟩) a))
noncomputable abbrev Du(a c b d e:Int)(f:MS)(g:V)(j:MS)(h i:Int):Prop:=∀k,Rt (k+60) 878 [mD h a c b d e,.b 16,.b 17,.b 18,.a i] f g j
noncomputable abbrev Dk(a:Nat)(b:List V)(f:MS)(g:V)(j:MS):Prop:=∀c,Rt (c+30) a b f g j
theorem yG(k)(h:Dk 859 [mD 0 a c b d e,.b 16,.b 17,.b 18,.a k] f g j):Du a c b d e f g j 0 k:=λi=>by exact lq [.y,.v _ _ (h (i+26))] (by kernel_rfl)
theorem yH(k)(h:Dk 859 [mD 1 a c b d e,.b 16,.b 17,.b 18,.a k] f g j):Du a c b d e f g j 1 k:=λi=>by exact lq [.y,.v _ _ (h (i+26))] (by kernel_rfl)
theorem yI(k)(h:Dk 859 [mD 2 a c b d e,.b 16,.b 17,.b 18,.a k] f g j):Du a c b d e f g j 2 k:=λi=>by exact lq [.y,.v _ _ (h (i+26))] (by kernel_rfl)
theorem Hy(k)(h:Dk 873 [mD 3 a c b d e,.b 16,.b 17] f g j):Du a c b d e f g j 3 k:=λi=>by exact lq [.n,.y,.v _ _ (h (i+26))] (by kernel_rfl)
theorem Bz(k)(h:Dk 873 [mD 4 a c b d e,.b 16,.b 17] f g j):Du a c b d e f g j 4 k:=λi=>by exact lq [.n,.y,.v _ _ (h (i+26))] (by kernel_rfl)
theorem Hz(k)(h:Dk 873 [mD 5 a c b d e,.b 16,.b 17] f g j):Du a c b d e f g j 5 k:=λi=>by exact lq [.n,.y,.v _ _ (h (i+26))] (by kernel_rfl)
theorem HA(k)(h:Dk 866 [mD 6 a c b d e,.b 16,.b 17,.b 18] f g j):Du a c b d e f g j 6 k:=λi=>by exact lq [.n,.n,.y,.v _ _ (h (i+26))] (by kernel_rfl)
noncomputable abbrev Tc(a c b d e:Int)(g:Q)(h:Nat)(i:Int)(j:V)(f:MS):Prop:=∀k,Rt (k+130) 885 [.b 10,.a 512,mD i a c b d e] ⟨St g,h⟩ j f
noncomputable abbrev Kc(a:Q)(b c:Nat)(d:List V)(g:R V):Prop:=∀e,(kX lj (e+110)).l c d ⟨St a,b⟩=g
variable(h:0<=a/\a<=16){i:List MO}
include h
theorem HB(i:Kc k l 334 [.b 10,.a 512,.a (16*a+c),.a b,.a d] (.ok g f)):Tc a c b d e k l 0 g f:=λj=>by exact lq [.o _ _ (nY a h),.y,.v _ _ (i (j+15))] (by kernel_rfl)
theorem Td(f:Kc k l 334 [.b 10,.a 512,.a (16*a+c),.a b,.a d] (.c ⟨52,0⟩ ⟨i,m⟩)):Tc a c b d e k l 0 pk ⟨i,m+3⟩:=λg=>by exact lq [.o _ _ (nY a h),.y,.v _ _ (f (g+15))] (by kernel_rfl)
theorem Te(f:Kc k l 334 [.b 10,.a 512,.a (16*a+c),.a b,.a d] (.c ⟨83,0⟩ ⟨i,m⟩)):Tc a c b d e k l 0 wu ⟨i,m+3⟩:=λg=>by exact lq [.o _ _ (nY a h),.y,.v _ _ (f (g+15))] (by kernel_rfl)
theorem HC(i:Kc k l 334 [.b 10,.a 512,.a (16*a+c),.a b,.a d] (.ok g f)):Tc a c b d e k l 1 g f:=λj=>by exact lq [.o _ _ (nY a h),.y,.v _ _ (i (j+15))] (by kernel_rfl)
theorem Tf(f:Kc k l 334 [.b 10,.a 512,.a (16*a+c),.a b,.a d] (.c ⟨52,0⟩ ⟨i,m⟩)):Tc a c b d e k l 1 pk ⟨i,m+3⟩:=λg=>by exact lq [.o _ _ (nY a h),.y,.v _ _ (f (g+15))] (by kernel_rfl)
theorem Tg(f:Kc k l 334 [.b 10,.a 512,.a (16*a+c),.a b,.a d] (.c ⟨83,0⟩ ⟨i,m⟩)):Tc a c b d e k l 1 wu ⟨i,m+3⟩:=λg=>by exact lq [.o _ _ (nY a h),.y,.v _ _ (f (g+15))] (by kernel_rfl)
theorem HD(i:Kc k l 334 [.b 10,.a 512,.a (16*a+c),.a b,.a d] (.ok g f)):Tc a c b d e k l 2 g f:=λj=>by exact lq [.o _ _ (nY a h),.y,.v _ _ (i (j+15))] (by kernel_rfl)
theorem Th(f:Kc k l 334 [.b 10,.a 512,.a (16*a+c),.a b,.a d] (.c ⟨52,0⟩ ⟨i,m⟩)):Tc a c b d e k l 2 pk ⟨i,m+3⟩:=λg=>by exact lq [.o _ _ (nY a h),.y,.v _ _ (f (g+15))] (by kernel_rfl)
theorem Ti(f:Kc k l 334 [.b 10,.a 512,.a (16*a+c),.a b,.a d] (.c ⟨83,0⟩ ⟨i,m⟩)):Tc a c b d e k l 2 wu ⟨i,m+3⟩:=λg=>by exact lq [.o _ _ (nY a h),.y,.v _ _ (f (g+15))] (by kernel_rfl)
theorem Tj(i:Kc k l 355 [.b 10,.a 512,.a (16*a+c)] (.ok g f)):Tc a c b d e k l 3 g f:=λj=>by exact lq [.o _ _ (nY a h),.n,.y,.v _ _ (i (j+15))] (by kernel_rfl)
theorem Tk(f:Kc k l 355 [.b 10,.a 512,.a (16*a+c)] (.c ⟨52,0⟩ ⟨i,m⟩)):Tc a c b d e k l 3 pk ⟨i,m+3⟩:=λg=>by exact lq [.o _ _ (nY a h),.n,.y,.v _ _ (f (g+15))] (by kernel_rfl)
theorem Tl(i:Kc k l 363 [.b 10,.a 512,.a (16*a+c),.a (pO e),.a (pP e)] (.ok g f)):Tc a c b d e k l 4 g f:=λj=>by exact lq [.o _ _ (nY a h),.n,.n,.y,.v _ _ (yE e ⟨St k,l⟩),.v _ _ (yF e ⟨St k,l⟩),.v _ _ (i (j+15))] (by kernel_rfl)
theorem HF(f:Kc k l 363 [.b 10,.a 512,.a (16*a+c),.a (pO e),.a (pP e)] (.c ⟨52,0⟩ ⟨i,m⟩)):Tc a c b d e k l 4 pk ⟨i,m+3⟩:=λg=>by exact lq [.o _ _ (nY a h),.n,.n,.y,.v _ _ (yE e ⟨St k,l⟩),.v _ _ (yF e ⟨St k,l⟩),.v _ _ (f (g+15))] (by kernel_rfl)
theorem Tm(i:Kc k l 370 [.b 10,.a 512,.a (16*a+c),.a b,.a d] (.ok g f)):Tc a c b d e k l 5 g f:=λj=>by exact lq [.o _ _ (nY a h),.n,.n,.n,.y,.v _ _ (i (j+15))] (by kernel_rfl)
theorem Tn(f:Kc k l 370 [.b 10,.a 512,.a (16*a+c),.a b,.a d] (.c ⟨52,0⟩ ⟨i,m⟩)):Tc a c b d e k l 5 pk ⟨i,m+3⟩:=λg=>by exact lq [.o _ _ (nY a h),.n,.n,.n,.y,.v _ _ (f (g+15))] (by kernel_rfl)
theorem To(i:0<=b/\b<640)(j:Kc k l 341 [.b 10,.a 512,.a (64*(a%5)+c),.a (qN b),.a d] (.ok g f)):Tc a c b d e k l 6 g f:=λm=>by exact lq [.o _ _ (nY a h),.n,.n,.n,.n,.y,.o _ _ (Hw a),.o _ _ (Hx b i),.v _ _ (j (m+15))] (by kernel_rfl)
theorem Tp(f:0<=b/\b<640)(g:Kc k l 341 [.b 10,.a 512,.a (64*(a%5)+c),.a (qN b),.a d] (.c ⟨52,0⟩ ⟨i,m⟩)):Tc a c b d e k l 6 pk ⟨i,m+3⟩:=λj=>by exact lq [.o _ _ (nY a h),.n,.n,.n,.n,.y,.o _ _ (Hw a),.o _ _ (Hx b f),.v _ _ (g (j+15))] (by kernel_rfl)
theorem Tq(i:Kc k l 398 [.b 10,.a 512] (.ok g f)):Tc a c b d e k l 7 g f:=λj=>by exact lq [.o _ _ (nY a h),.n,.n,.n,.n,.n,.v _ _ (i (j+16))] (by kernel_rfl)
end
theorem Ts(a)(b):(a.filter λc=>c.1/4==b).isEmpty=ma a b:=by
 rw[i9];constructor;·intro d;rw[List.isEmpty_iff,ee]at d;unfold ma;rw[dB];intro e f;refine lA (pM f) λg h=>?_;unfold mX;rw[dy,Bs];intro i;refine ll (List.mem_map.mp i) λc j k=>?_;exact d c j (by rw[beq_iff_eq];exact(Y [e,c.fst,b] [] ⟨[1,3,2],[.d .b 4],[.l .o .a,.t .a (.k 4),.e .b (.p (.w .c 4) .a)],.e .d .c⟩) g h k)
 ·intro d;rw[List.isEmpty_iff,ee];intro c j k;rw[beq_iff_eq]at k;have l:=Hr d (c.1%4) s7 s8;have m:b*4+c.1%4=c.1:=by exact(Y [c.fst,b] [] ⟨[1,3],[.m .a 4],[.e .c .b],.e (.p (.w .b 4) .d) .a⟩) k
  rw[m,Bs]at l;exact l (List.mem_map.mpr ⟨c,j,rfl⟩)
theorem HG{a:Type}(b:a->Int)(c:List a)(d):mz .Eq (.c (c.map λe=>.a (b e))) (.c []) d=.ok c.isEmpty d:=by induction c<;>rfl
section
variable(a:Q)(b:Nat)
theorem Tt(c)(d:a.b.length<=4096)(e)(f)(g:kZ 27 f=Z (.a (.b 16)))(h:kZ 33 f=Z (.a (.a c))):(kX lj (e+20)).ev f (.lc (.b 38) (dp 38) 0 [.b 27] [.n (.k .FloorDiv (.b 38) (.f (.a 4))) [.Eq] [.b 33]]) ⟨St a,b⟩=.ok (.c ((a.b.filter λi=>i.1/4==c).map λi=>.a i.1)) ⟨St a,b⟩:=by
 have j:lS (kX lj (e+19)) f I 0 [.b 27] ⟨St a,b⟩=.ok (a.b.map λi=>.a i.1) ⟨St a,b⟩:=by refine(M.lO (sJ g)).trans ?_;show R.ok ((vP a.b).map λk=>V.a k.1) _=_;unfold vP;rw[b_];rfl
 refine yk (λi:Int×Int×Int=>V.a i.1) (λi f=>k9 38 (.a (.a i.1)) f) (λ_ _=>rfl) (λi=>i.1/4==c) (λi=>.a i.1) a.b j d (λi l=>?_) λi l _=>?_;·cases m:i.1/4==c with|false=>exact uS (GW.lu.k9 (la h lD) 38 (LV.a (V.a i.1))) [.b _ _ m] (by kernel_rfl)|true=>exact uS (GW.lu.k9 (la h lD) 38 (LV.a (V.a i.1))) [.b _ _ m] (by kernel_rfl)
 ·exact l7 (GW.lu.k9 (la h (la g lD)) (38) (LV.a (V.a i.fst))) [] (by kernel_rfl)
theorem Tu(c:a.b.length<=4096)(d:a.a.length<=4096)(e)(f)(g:kZ 27 f=Z (.a (.b 16)))(h:kZ 29 f=Z (.a (.b 18))):(kX lj (e+40)).ev f (.lc (.b 33) (dp 33) 0 [.b 29] [.n (.lc (.b 38) (dp 38) 0 [.b 27] [.n (.k .FloorDiv (.b 38) (.f (.a 4))) [.Eq] [.b 33]]) [.Eq] [.c []]]) ⟨St a,b⟩=.ok (.c ((a.a.filter (ma a.b)).map .a)) ⟨St a,b⟩:=by
 have i:lS (kX lj (e+39)) f I 0 [.b 29] ⟨St a,b⟩=.ok (a.a.map .a) ⟨St a,b⟩:=by exact Qm (f:=18) (l7 (g:=e) (la h lD) [] (by kernel_rfl)) rfl
 refine yk V.a (λj f=>k9 33 (.a (.a j)) f) (λ_ _=>rfl) (ma a.b) V.a a.a i d (λj k=>?_) λl m _=>?_;·have n:=HG (λl:Int×Int×Int=>l.1) (a.b.filter λl=>l.1/4==j) ⟨St a,b⟩;rw[Ts]at n;have o:=λp=>Tt a b j c p (k9 33 (.a (.a j)) f) ((GW.nE _ _ rfl).trans g) (GW.nW _ _ _);cases q:ma a.b j with|false=>rw[q]at n;exact uS (GW.lu.k9 (la h (la g lD)) 33 (LV.a (V.a j))) [.v _ _ (o (e+18)),.t _ _ n,.n] (by kernel_rfl)|true=>rw[q]at n;exact uS (GW.lu.k9 (la h (la g lD)) 33 (LV.a (V.a j))) [.v _ _ (o (e+18)),.t _ _ n,.y] (by kernel_rfl)
 ·exact l7 (GW.lu.k9 (la h (la g lD)) (33) (LV.a (V.a l))) [] (by kernel_rfl)
end
noncomputable def BA:List lT:=[.g (.p (.b 29) 129 [.b 33])]
theorem Tv(a:List Int):∀(b:Q)(c:Nat),a.Nodup->(∀d∈a,d∈b.a)->b.a.length<=4096->b.a.Nodup->∃e,∀f g,kZ 29 g=Z (.a (.b 18))->∃h,mT (kX lj (f+30)) (.inl 33) BA (a.map .a) g ⟨St b,c⟩=.ok (h,.a) ⟨St {b with a:=b.a.filter λi=>!(a.contains i&&I)},e⟩/\kZ 32 h=kZ 32 g:=by
 induction a with|nil=>exactλb c _ _ _ _=>⟨c,λf g _=>⟨g,by rw[(List.filter_eq_self.mpr λ_ _=>rfl:(b.a.filter λi=>!(([]:List Int).contains i&&I))=b.a)];rfl,rfl⟩⟩|cons d a j=>
  intro b c k l m n;refine lA (List.nodup_cons.mp k) λo p=>?_;refine lp (j {b with a:=b.a.erase d} (c+1) p (λi q=>(n.mem_erase_iff).mpr ⟨λr=>o (r▸q),l i (aq _ q)⟩) (ao (List.length_erase_le ..) m) (n.erase _)) λe s=>?_;refine⟨e,λf g t=>?_⟩;refine ll (s f (k9 33 (.a (.a d)) g) ((GW.nE _ _ rfl).trans t)) λh u v=>?_;refine⟨h,?_,v.trans (GW.nE _ _ rfl)⟩;show(M.bind (lH (kX lj (f+30)) BA (k9 33 (.a (.a d)) g)) _ _)=_;have w:lH (kX lj (f+30)) BA (k9 33 (.a (.a d)) g) ⟨St b,c⟩=.ok (k9 33 (.a (.a d)) g,.a) ⟨St {b with a:=b.a.erase d},c+1⟩:=by exact uT (GW.lu.k9 (la t lD) (33) (LV.a (V.a d))) [.v _ _ ((SN b c d m (by simpa using(l d (aw ..)))))] (by kernel_rfl)
  rw[nF,w,←Bu n d a (λ_=>I) rfl];exact u
theorem Tw(a:Q)(b)(c d e f g h)(i:a.b.length<=4096)(j:a.a.length<=4096)(k:a.a.Nodup):∃l,∀m,Rq (m+60) 878 [mD 7 c d e f g,.b 16,.b 17,.b 18,.a h] a b (.a (a.a.filter (ma a.b)).length) {a with a:=a.a.filter λn=>!(ma a.b n)} l:=by
 refine lp (Tv (a.a.filter (ma a.b)) a b (dC de k) (λo p=>(List.mem_filter.mp p).1) j k) λl q=>?_;refine mf l (λm=>?_);have r:=λm=>Tu a b i j m [(26,.a (.e [.a 7,.a c,.a d,.a e,.a f,.a g])),(27,.a (.b 16)),(28,.a (.b 17)),(29,.a (.b 18)),(30,.a (.a h))] rfl rfl;refine ll (q (m+28) [(26,.a (mD 7 c d e f g)),(27,.a (.b 16)),(28,.a (.b 17)),(29,.a (.b 18)),(30,.a (.a h)),(32,.a (.c ((a.a.filter (ma a.b)).map .a)))] rfl) λs t u=>?_;have v:(a.a.filter λn=>!((a.a.filter (ma a.b)).contains n&&I))=a.a.filter λn=>!(ma a.b n):=by
  refine fQ λn w=>?_;have:(a.a.filter (ma a.b)).contains n=ma a.b n:=by rw[i9,List.contains_iff_mem,ja];exact⟨λx=>x.2,λx=>⟨w,x⟩⟩
  refine this▸?_;rw[jJ]
 rw[v]at t;have y:=bp (ma a.b) a.a;have z:∀A,l6 .b [.c ((a.a.filter (ma a.b)).map .a)] A=.ok (.a (a.a.filter (ma a.b)).length) A:=by intro A;show(if((a.a.filter (ma a.b)).map V.a).length<=mE then M.pure (.a ((a.a.filter (ma a.b)).map V.a).length)else M.b:M V) A=_;rw[ay,if_pos (ao y (ao j (by decide)))];rfl
 have B:∀m C A,kZ 32 C=Z (.a (.c ((a.a.filter (ma a.b)).map .a)))->lS (kX lj (m+1)) C ak 0 [.b 32] A=.ok ((a.a.filter (ma a.b)).map .a) A:=λm C A x=>xW x;exact lq [.n,.n,.n,.v _ _ (r (m+18)),.s _ _ _ _ _ (qa lj (B (m+57) [(26,.a (.e [.a 7,.a c,.a d,.a e,.a f,.a g])),(27,.a (.b 16)),(28,.a (.b 17)),(29,.a (.b 18)),(30,.a (.a h)),(32,.a (.c ((a.a.filter (ma a.b)).map .a)))] ⟨St a,b⟩ rfl) t) (la (u:kZ 32 s=Z (.a (.c ((a.a.filter (ma a.b)).map .a)))) lD),.v _ _ (z ⟨St {a with a:=a.a.filter λn=>!(ma a.b n)},l⟩)] (by kernel_rfl)
end
section
noncomputable def tS(a:V):Prop:=∀b,mz .NotEq a a b=.ok ak b
theorem yJ(a):tS (.a a):=λb=>by rw[QP];simp
theorem tT:tS .g:=λa=>rfl
theorem sV:tS pk:=λa=>rfl
theorem BB:tS wu:=λa=>rfl
inductive r8(q:Q)(mu N:Nat)(P:V):Prop|mk(r:V)(q1:Q)(mu1:Nat)(q2:Q)(mu2:Nat)(nH:Int->Int)(kd:∀n,Rq (n+60) 878 [P,.b 16,.b 17,.b 18,.a (q.lE-1)] q mu r q1 mu1)(kt:∀n,Rq (n+130) 885 [.b 10,.a 512,P] q1 mu1 r q2 mu2)(hc:q2.lE=q.lE)(iv:l0 q2 q2.b q2.c q2.a nH (N+40))(l1:q2.b.length+q2.c.length<=q.b.length+q.c.length+1)(l2:q2.a.length<=q.a.length+1)(hr:tS r)
theorem qj(a:∀b,Rq (b+60) 878 [c,.b 16,.b 17,.b 18,.a (d.lE-1)] d e f g h)(i:∀b,Rq (b+130) 885 [.b 10,.a 512,c] g h f j k)(l:rZ g j)(m:g.lE=d.lE)(n:l0 j g.b g.c g.a o p)(q:p<=r+40)(s:g.b.length+g.c.length<=d.b.length+d.c.length+1)(t:g.a.length<=d.a.length+1)(u:tS f):r8 d e r c:=by refine⟨f,g,h,j,k,o,a,i,by refine l.c.symm▸?_;exact m▸rfl,?_,by rw[l.o,l.b];exact s,by refine l.m▸?_;exact t,u⟩;refine l.o▸?_;refine l.b▸?_;refine l.m▸?_;exact⟨n.a,n.d,n.c,n.e.up q⟩
theorem Tx(a):rZ a a:=⟨rfl,rfl,rfl,rfl⟩
theorem rn(a):a+10<=a+40:=eY (by decide) a
theorem yK{a b c}(d:a<=b+1):a+c<=b+c+1:=Nat.add_right_comm b 1 c▸Nat.add_le_add_right d c
theorem qO{a:Int->Int}(b:l0 c c.b c.c c.a a d)(e:∀f,Rq (f+60) 878 [g,.b 16,.b 17,.b 18,.a (c.lE-1)] c h i c j)(k:∀f,Rq (f+130) 885 [.b 10,.a 512,g] c j i c l)(m:tS i):r8 c h d g:=qj e k (Tx c) rfl b (iS _ _) (aL _) (aL _) m
theorem Tz(a:MD b c d)(e:d.Nodup):((ml d).filter (ma b)).length=(d.filter (ma b)).length:=by refine List.Perm.length_eq ((fm (dC de (yx d):((ml d).filter (ma b)).Nodup) (dC de e:(d.filter (ma b)).Nodup)).mpr λf=>?_);rw[ja,ja];exact⟨λg=>⟨yw g.1,g.2⟩,λg=>⟨yz g.1 (a.mg f g.1),g.2⟩⟩
theorem BC(a):pO a∈[4,128,256,16,0,(2:Int)]:=wq _ (λb=>b∈[4,128,256,16,0,(2:Int)]) (by decide) (by decide) _
theorem BD(a):pP a∈[0,2,4,256,1,(10:Int)]:=wq _ (λb=>b∈[0,2,4,256,1,(10:Int)]) (by decide) (by decide) _
section
variable{a:Q}{r:Int->Int}{j:Nat}(e:l0 a a.b a.c a.a r j)(k:j<=2000)(h:Nat)(o:a.b.length<=4000)(q:a.c.length<=4000)(p:a.a.length<=4000){b i d g f:Int}(c:0<=b/\b<=16)(l:i=0\/i=5)(m:0<=d/\d<640)(n:0<=g)
include e k o q p c l m n
theorem BE(s)(q:s=0\/s=1\/s=2):r8 a h j (mD s b i d g f):=by
 cases r:qg b i d g a.b a.c with|true=>
  have t:=SU a h s b i d g f (a.lE-1) r;refine lp (So e (lk k rfl) h c.1 l n r) λu v=>?_;rcases q with rfl|rfl|rfl;·exact qO e (yG _ _ _ _ _ _ t) (Td _ _ _ _ _ c v) sV
  ·exact qO e (yH _ _ _ _ _ _ t) (Tf _ _ _ _ _ c v) sV
  ·exact qO e (yI _ _ _ _ _ _ t) (Th _ _ _ _ _ c v) sV|false=>
  have w:=yK (c:=a.c.length) (tJ b (d,ai g 1) a.b);have x:=And.intro m.1 (bH m.2 (by decide:(640:Int)<4096))
  cases y:a.a.contains (b/4)with|true=>
   have z:=List.contains_iff_mem.mp y;refine lp (SW a h s b i d g f (a.lE-1) r y (lk o rfl)) λA t=>?_;refine nZ (Ho (e.b (mc b (d,ai g 1) a.b) a.c a.a) (lk k rfl) A c.1 n x r (.inl z)) λB C E v F G=>?_;replace G:=(if_pos z)▸G;rcases q with rfl|rfl|rfl;·exact qj (yG _ _ _ _ _ _ t) (HB _ _ _ _ _ c v) F rfl G (rn j) w (aL _) tT
   ·exact qj (yH _ _ _ _ _ _ t) (HC _ _ _ _ _ c v) F rfl G (rn j) w (aL _) tT
   ·exact qj (yI _ _ _ _ _ _ t) (HD _ _ _ _ _ c v) F rfl G (rn j) w (aL _) tT|false=>
   have z:b/4∉a.a:=λH=>bw (y.symm.trans (List.contains_iff_mem.mpr H));have J:=e.mlt;by_cases L:(a.a.length:Int)=a.lE-1
   ·have t:=SV a h s b i d g f (a.lE-1) r y (lk p rfl) L;refine lp (Sp e (lk k rfl) h c.1 n r z L) λu v=>?_;rcases q with rfl|rfl|rfl;·exact qO e (yG _ _ _ _ _ _ t) (Te _ _ _ _ _ c v) BB
    ·exact qO e (yH _ _ _ _ _ _ t) (Tg _ _ _ _ _ c v) BB
    ·exact qO e (yI _ _ _ _ _ _ t) (Ti _ _ _ _ _ c v) BB
   ·refine lp (SX a h s b i d g f (a.lE-1) r y (lk o rfl) (lk p rfl) L) λA t=>?_;refine nZ (Ho (e.b (mc b (d,ai g 1) a.b) a.c (a.a++[b/4])) (lk k rfl) A c.1 n x r (.inr ((Y [a.lE] [a.a.length] ⟨[1],[],[.l (.p (.n .a) .u) .a,.N (.e (.n .a) (.s .a .u))],.t (.p (.n .a) .u) .a⟩) J L))) λB C E v F G=>?_;replace G:=(if_neg z)▸G;have M:(a.a++[b/4]).length<=a.a.length+1:=bV aW;rcases q with rfl|rfl|rfl;·exact qj (yG _ _ _ _ _ _ t) (HB _ _ _ _ _ c v) F rfl G (rn j) w M tT
    ·exact qj (yH _ _ _ _ _ _ t) (HC _ _ _ _ _ c v) F rfl G (rn j) w M tT
    ·exact qj (yI _ _ _ _ _ _ t) (HD _ _ _ _ _ c v) F rfl G (rn j) w M tT
theorem TA:r8 a h j (mD 3 b i d g f):=by cases m:lz b a.b with|none=>exact lp (Sq e (lk k rfl) h c l m) λn p=>qO e (Hy _ _ _ _ _ _ (S5 a h b i d g f m)) (Tk _ _ _ _ _ c p) sV|some q=>refine lp (S7 a h b i d g f m (lk o rfl)) λr s=>?_;exact lP (Sr (e.b (mH b a.b) a.c a.a) (lk k rfl) r c l m) λt u p v w=>qj (Hy _ _ _ _ _ _ s) (Tj _ _ _ _ _ c p) v rfl w (rn j) (yK (bo (Bf b a.b))) (aL _) (yJ _)
theorem TB:r8 a h j (mD 4 b i d g f):=by cases m:lz b a.b with|none=>exact lp (Hp e (lk k rfl) h c l (BD f) (BC f) (λn p=>nn (m.symm.trans p))) λq r=>qO e (Bz _ _ _ _ _ _ (S_ a h b i d g f m)) (HF _ _ _ _ _ c r) sV|some n=>cases s:l9 (lZ n.2 (pP f) (pO f))with|false=>exact lp (Hp e (lk k rfl) h c l (BD f) (BC f) (λt p=>aa (m.symm.trans p)▸s)) λq r=>qO e (Bz _ _ _ _ _ _ (Ta a h b i d g f m s)) (HF _ _ _ _ _ c r) sV|true=>refine lp (Tb a h b i d g f m (e.c.c _ n m).2.2.2.1 s (lk o rfl)) λu v=>?_;exact lP (Sv (e.b (mc b (n.1,ai (lZ n.2 (pP f) (pO f)) 1) a.b) a.c a.a) (lk k rfl) u c l (BD f) (BC f) m s) λw x r y z=>qj (Bz _ _ _ _ _ _ v) (Tl _ _ _ _ _ c r) y rfl z (rn j) (yK (tJ _ _ _)) (aL _) (yJ _)
theorem TD:r8 a h j (mD 5 b i d g f):=by
 by_cases p:l9 g=I/\d%16=0/\(lz b a.b).isSome=I;·refine lp (Option.isSome_iff_exists.mp p.2.2) λq r=>?_;refine lp (S9 a h b i d g f p.1 p.2.1 r (lk o rfl)) λs t=>?_;exact lP (Su (e.b (mc b (d,ai g 1) a.b) a.c a.a) (lk k rfl) s c l n ⟨m.1,bH m.2 (by decide)⟩ p.1 p.2.1 r) λu v w x y=>qj (Hz _ _ _ _ _ _ t) (Tm _ _ _ _ _ c w) x rfl y (rn j) (yK (tJ _ _ _)) (aL _) (yJ _)
 ·exact lp (Ss e (lk k rfl) h c l n p) λz w=>qO e (Hz _ _ _ _ _ _ (S8 a h b i d g f p)) (Tn _ _ _ _ _ c w) sV
theorem TE:r8 a h j (mD 6 b i d g f):=by have o:=bz b (by decide:(5:Int)≠0);cases p:sU (b%5) i (qN d) g a.c a.a with|true=>exact lp (Sw e (lk k rfl) h (k:=b%5) o l n p) λr s=>qO e (HA _ _ _ _ _ _ (S0 a h 6 b i d g f m p)) (Tp _ _ _ _ _ c m s) sV|false=>refine lp (S4 a h 6 b i d g f m p (lk q rfl)) λt u=>?_;exact lP (Sx (e.b a.b (mc (b%5) (qN d,ai g 1) a.c) a.a) (lk k rfl) t o ((Y [d] [] ⟨[3,1,2],[.m .a 16],[.A (.l .o .a) (.t .a (.k 640))],.A (.l .o (.p (.m 4 (.s .a .c)) .c)) (.t (.p (.m 4 (.s .a .c)) .c) (.k 4096))⟩) m) n p) λv w s x y=>qj (HA _ _ _ _ _ _ u) (To _ _ _ _ _ c m s) x rfl y (rn j) (eY (tJ _ _ _) _) (aL _) tT
theorem TG:r8 a h j (mD 7 b i d g f):=by refine lp (Tw a h b i d g f (a.lE-1) (lk o rfl) (lk p rfl) e.a.c) λl m=>?_;exact lP (Sz (e.b a.b a.c (a.a.filter λn=>!(ma a.b n))) (lk k rfl) l) λq r s t u=>qj m (Tq b i d g f c (Tz e.c e.a.c▸s)) t rfl u (al _) (aL _) (bo (bp _ a.a)) (yJ _)
end
theorem TH(a:l0 b b.b b.c b.a c d)(e:d<=2000)(f)(g:b.b.length<=4000)(h:b.c.length<=4000)(i:b.a.length<=4000)(j)(k:0<=j/\j<1000000000000):r8 b f d (mD (j%8) (j/8%17) (u1 j) (wm j) (u2 j) (j/8/87040)):=by
 have l:j%8=0\/j%8=1\/j%8=2\/j%8=3\/j%8=4\/j%8=5\/j%8=6\/j%8=7:=by have m:=bz j (by decide:(8:Int)≠0);have n:=bq j (by decide:(0:Int)<8);generalize j%8=o at m n;cases o with|ofNat p=>exact(by decide:∀p:Nat,p<8->bJ p=0\/bJ p=1\/bJ p=2\/bJ p=3\/bJ p=4\/bJ p=5\/bJ p=6\/bJ p=7) p (Int.ofNat_lt.mp n)|negSucc p=>exact absurd m (Int.not_le.mpr (kN p))
 have q:0<=j/8%17/\j/8%17<=16:=by exact Y [j] [] ⟨[3,1,4,2],[.d .a 8,.m .b 17],[],.A (.l .o .d) (.l .d (.k 16))⟩
 have r:=SG j;have s:=SJ j;have t:=(SI j).1;rcases l with u|u|u|u|u|u|u|u<;>refine u▸?_;·exact BE a e f g h i q r s t 0 (.inl rfl)
 ·exact BE a e f g h i q r s t 1 (.inr (.inl rfl))
 ·exact BE a e f g h i q r s t 2 (.inr (.inr rfl))
 ·exact TA a e f g h i q r s t
 ·exact TB a e f g h i q r s t
 ·exact TD a e f g h i q r s t
 ·exact TE a e f g h i q r s t
 ·exact TG a e f g h i q r s t
end
section
theorem u4{a b:Type}(c:Nat->Nat->Bool)(d:a->ij b):∀e:ij a,lY c (e.bind d)=lY c (d (lY c e))|.ret f=>rfl|.ask g h i=>by exact u4 c d (i (c g h))
theorem TI(a:Nat->Nat->Bool)(b)(c d):lY a (d9 b (c+1) d)=if a (b.getD d 0) (b.getD (d-1) 0)=I then d else lY a (d9 b c (d+1)):=by show lY a (if a (b.getD d 0) (b.getD (d-1) 0)=I then .ret d else d9 b c (d+1))=_;split<;>rfl
theorem TJ(a:Nat->Nat->Bool)(b)(c d):lY a (fa (c+1) b d 0)=if a (b.getD d 0) (b.getD (d-1) 0)=I then lY a (fa c b (d+1) 0)else if a (b.getD (d-1) 0) (b.getD d 0)=I then(b,d,0)else lY a (fa c b (d+1) 1):=by
 show lY a (if a (b.getD d 0) (b.getD (d-1) 0)=I then(if 0>0 then fa c (fN b (d-(0+1)) d) (d+1) 0 else fa c b (d+1) 0)else .ask (b.getD (d-1) 0) (b.getD d 0) λe=>if e=I then .ret (b,d,0)else fa c b (d+1) (0+1))=_;split;·exact congrArg _ (if_neg (Y [] [] ⟨[],[],[],.N (.T .o .o)⟩))
 ·show lY a (if a (b.getD (d-1) 0) (b.getD d 0)=I then .ret (b,d,0)else fa c b (d+1) (0+1))=_;split<;>rfl
theorem TK(a:Nat->Nat->Bool)(b)(c d e f):lY a (ce b c (d+1) e f)=if e>=f then e else if a (b.getD c 0) (b.getD ((e+f)/2) 0)=I then lY a (ce b c d e ((e+f)/2))else lY a (ce b c d ((e+f)/2+1) f):=by
 show lY a (if e>=f then .ret e else .ask (b.getD c 0) (b.getD ((e+f)/2) 0) λg=>if g=I then ce b c d e ((e+f)/2)else ce b c d ((e+f)/2+1) f)=_;split;·rfl
 ·show lY a (if a (b.getD c 0) (b.getD ((e+f)/2) 0)=I then ce b c d e ((e+f)/2)else ce b c d ((e+f)/2+1) f)=_;split<;>rfl
theorem tU(a:Array Nat)(b):a.getD b 0=(a[b]?).getD 0:=by
 by_cases c:b<a.size;·simp[il,c]
 ·simp[il,c]
section
variable{a:Nat}{b:Nat->Int}{c:Nat->Nat->Bool}(e:∀g h,g<a->h<a->c g h=aE (b g<b h))(f:∀g h,g<a->h<a->b g=b h->g=h)
structure nj(a:Nat)(p:Array Nat):Prop where
 s:p.size=a
 p:p.toList.Perm (dP a)
noncomputable def SP(b:Nat->Int)(a:Array Nat)(c:Nat):Prop:=∀d e,d<e->e<c->b (a.getD d 0)<b (a.getD e 0)
noncomputable def DP(b:Nat->Int)(a:Array Nat)(c:Nat):Prop:=∀d e,d<e->e<c->b (a.getD e 0)<b (a.getD d 0)
theorem nj.d{b}(i:nj a b)(j:k<a):b.getD k 0=b.toList[k]'(by rw[cF,i.s];exact j)/\b.getD k 0<a:=by
 have c:k<b.toList.length:=by rw[cF,i.s];exact j
 have d:b.getD k 0=b.toList[k]'c:=by
  have:k<b.size:=by rw[i.s];exact j
  simp[il,this]
 refine⟨d,?_⟩;have:b.toList[k]'c∈dP a:=i.p.mem_iff.mp (List.getElem_mem c);rw[d];simpa using this
include f in
theorem nj.ne{c}(d:nj a c)(e:i<a)(g:j<a)(h:i≠j):b (c.getD i 0)≠b (c.getD j 0):=by intro k;have l:=d.d e;have m:=d.d g;have n:=f _ _ l.2 m.2 k;rw[l.1,m.1]at n;exact h ((List.getElem_inj (d.p.nodup_iff.mpr List.nodup_range:c.toList.Nodup)).mp n)
include e in
theorem wv{d}(f:nj a d)(i j)(g:i<a)(h:j<a):c (d.getD i 0) (d.getD j 0)=aE (b (d.getD i 0)<b (d.getD j 0)):=e _ _ (f.d g).2 (f.d h).2
theorem yL(a:d<i.size)(b:j<=d)(k:Nat):(bubble i d j).getD k 0=if k=d-j then i.getD d 0 else if d-j<k/\k<=d then i.getD (k-1) 0 else i.getD k 0:=by
 refine ah (tU (bubble i d j) k) ?_;rw[getElem?_bubble a j b,tU i d,tU i (k-1),tU i k];split;·rfl
 ·split<;>rfl
theorem HH(a:d<=i.size)(j:Nat):(fN i 0 d).getD j 0=if j<d then i.getD (d-1-j) 0 else i.getD j 0:=by
 unfold fN;refine ah (tU (mirror i 0 d ((d-0)/2)) j) ?_;rw[getElem?_mirror_all a,tU i j,tU i (d-1-j)];by_cases b:j<d;·rw[if_pos ⟨bv _,b⟩,if_pos b];congr 2;exact Y [] [d,j] ⟨[1,3,4,6,2,5],[.s (.p .o .a) .u,.s .c .b,.s .a .u,.s .e .b],[],.E .d .f⟩
 ·rw[if_neg (λc=>b c.2),if_neg b]
theorem nj.t{b}(c:nj a b)(i):nj a (fN b 0 i):=⟨(kas_rev_size _ _).trans c.s,(Array.perm_iff_toList_perm.mp (mirror_perm b 0 i ((i-0)/2))).trans c.p⟩
theorem nj.yL{b}(c:nj a b)(i j):nj a (bubble b i j):=⟨(bubble_size _ _ _).trans c.s,(Array.perm_iff_toList_perm.mp (bubble_perm b i j)).trans c.p⟩
include e f in
theorem HI(d:nj a i):∀j k,1<=k->k+j<=a->SP b i k->k<=lY c (d9 i j k)/\lY c (d9 i j k)<=k+j/\SP b i (lY c (d9 i j k))/\(lY c (d9 i j k)<k+j->b (i.getD (lY c (d9 i j k)) 0)<b (i.getD (lY c (d9 i j k)-1) 0)):=by
 intro g;induction g with|zero=>
  intro k h l m;exact oK (al _) (al _) m (λd=>(aZ _ d).elim)|succ j n=>
  intro k h l m;rw[TI,wv e d k (k-1) (vl l) (vm h l)];by_cases o:aE (b (i.getD k 0)<b (i.getD (k-1) 0))=I;·rw[if_pos o];exact oK (al _) (Y [] [k,j] ⟨[1,2],[],[],.L .a (.p .a (.p .b .u))⟩) m (λ_=>by simpa using o)
  ·refine(if_neg o)▸?_;have p:=d.ne f (i:=k) (j:=k-1) (vl l) (vm h l) ((Y [] [k] ⟨[2,1],[.s .a .u],[.L .u .a],.N (.E .a .b)⟩) h);have q:b (i.getD (k-1) 0)<b (i.getD k 0):=by
    have:¬b (i.getD k 0)<b (i.getD (k-1) 0):=by simpa using o
    exact(Y [b (i.getD k 0),b (i.getD (k-1) 0)] [] ⟨[1],[],[.N (.e .a .b),.N (.t .a .b)],.t .b .a⟩) p this
   have r:SP b i (k+1):=by
    intro s t u v;by_cases w:t=k
    ·subst w;by_cases x:s=t-1;·subst x;exact q
     ·have:=m s (t-1) ((Y [] [s,t] ⟨[2,1],[.s .b .u],[.T .a .b,.L .u .b,.N (.E .a .c)],.T .a .c⟩) u h x) (wT h);exact bH this q
    ·exact m s t u ((Y [] [t,k] ⟨[2],[],[.T .a (.p .b .u),.N (.E .a .b)],.T .a .b⟩) v w)
   refine nk (n (k+1) (Y [] [k] ⟨[1],[],[],.L .u (.p .a .u)⟩) ((Y [] [k,j,a] ⟨[1],[],[.L (.p .a (.p .b .u)) .c],.L (.p (.p .a .u) .b) .c⟩) l) r) λy z A B=>?_;exact oK (vh y) ((Y [] [lY c (d9 i j (k+1)),k,j] ⟨[1],[],[.L .a (.p (.p .b .u) .c)],.L .a (.p .b (.p .c .u))⟩) z) A (λC=>B ((Y [] [lY c (d9 i j (k+1)),k,j] ⟨[2],[],[.L .a (.p (.p .b .u) .c),.T .a (.p .b (.p .c .u))],.T .a (.p (.p .b .u) .c)⟩) z C))
include e f in
theorem TL(d:nj a i):∀j k,1<=k->k+j<=a->DP b i k->∃l,lY c (fa j i k 0)=(i,l,0)/\k<=l/\l<=k+j/\DP b i l:=by
 intro g;induction g with|zero=>
  intro k h m n;exact⟨k,rfl,al _,al _,n⟩|succ j o=>
  intro k h m n;have p:=d.ne f (i:=k) (j:=k-1) (vl m) (vm h m) ((Y [] [k] ⟨[2,1],[.s .a .u],[.L .u .a],.N (.E .a .b)⟩) h);rw[TJ,wv e d k (k-1) (vl m) (vm h m),wv e d (k-1) k (vm h m) (vl m)];by_cases q:aE (b (i.getD k 0)<b (i.getD (k-1) 0))=I
  ·rw[if_pos q];have r:b (i.getD k 0)<b (i.getD (k-1) 0):=by simpa using q
   have s:DP b i (k+1):=by
    intro t u v w;by_cases x:u=k
    ·subst x;by_cases y:t=u-1;·subst y;exact r
     ·have:=n t (u-1) ((Y [] [t,u] ⟨[2,1],[.s .b .u],[.T .a .b,.L .u .b,.N (.E .a .c)],.T .a .c⟩) v h y) (wT h);exact bH r this
    ·exact n t u v ((Y [] [u,k] ⟨[2],[],[.T .a (.p .b .u),.N (.E .a .b)],.T .a .b⟩) w x)
   refine r9 (o (k+1) (Y [] [k] ⟨[1],[],[],.L .u (.p .a .u)⟩) ((Y [] [k,j,a] ⟨[1],[],[.L (.p .a (.p .b .u)) .c],.L (.p (.p .a .u) .b) .c⟩) m) s) λl z A B C=>?_;exact tY l z (vh A) ((Y [] [l,k,j] ⟨[1],[],[.L .a (.p (.p .b .u) .c)],.L .a (.p .b (.p .c .u))⟩) B) C
  ·rw[if_neg q];have r:aE (b (i.getD (k-1) 0)<b (i.getD k 0))=I:=by
    have:¬b (i.getD k 0)<b (i.getD (k-1) 0):=by simpa using q
    have:b (i.getD (k-1) 0)<b (i.getD k 0):=by exact(Y [b (i.getD k 0),b (i.getD (k-1) 0)] [] ⟨[1],[],[.N (.e .a .b),.N (.t .a .b)],.t .b .a⟩) p this
    simpa using this
   rw[if_pos r];exact tY k rfl (al _) (Y [] [k,j] ⟨[1,2],[],[],.L .a (.p .a (.p .b .u))⟩) n
theorem TM(a:d<=i.size)(c:DP b i d):SP b (fN i 0 d) d:=by intro e f g h;rw[HH a,HH a,if_pos (by exact(Y [] [e,f,d] ⟨[1,3],[],[.T .a .b,.T .b .c],.T .a .c⟩) g h),if_pos h];exact c (d-1-f) (d-1-e) (by exact(Y [] [e,f,d] ⟨[1,3,5,2],[.s .c .u,.s .d .b,.s .d .a],[.T .a .b,.T .b .c],.T .e .f⟩) g h) (by exact(Y [] [e,f,d] ⟨[3,5,1,2],[.s .c .u,.s .d .a],[.T .a .b,.T .b .c],.T .e .c⟩) g h)
include e f in
theorem TN(d:nj a i)(g:j<a)(h:SP b i j):∀k l m,l<=m->m<=j->m-l<=k->(∀n,n<l->b (i.getD n 0)<b (i.getD j 0))->(∀n,m<=n->n<j->b (i.getD j 0)<b (i.getD n 0))->lY c (ce i j k l m)<=j/\(∀n,n<lY c (ce i j k l m)->b (i.getD n 0)<b (i.getD j 0))/\∀n,lY c (ce i j k l m)<=n->n<j->b (i.getD j 0)<b (i.getD n 0):=by
 intro o
 induction o with|zero=>
  intro l m p q r s t;have u:l=m:=by exact(Y [] [l,m] ⟨[1,2,3],[.s .b .a],[.L .a .b,.L .c .o],.E .a .b⟩) p r
  subst u;exact oz q s t|succ k v=>
  intro l m p q r s t;rw[TK];by_cases w:l>=m
  ·rw[if_pos w];have u:l=m:=by exact(Y [] [l,m] ⟨[2],[],[.L .a .b,.L .b .a],.E .a .b⟩) p w
   induction u;exact oz q s t
  ·rw[if_neg w,wv e d j ((l+m)/2) g ((Y [] [j,a,m,l] ⟨[6,1,2,4,5],[.v (.p .d .c) 2],[.T .a .b,.L .c .a,.N (.L .c .d)],.T .e .b⟩) g q w)];by_cases x:aE (b (i.getD j 0)<b (i.getD ((l+m)/2) 0))=I
   ·refine(if_pos x)▸?_;refine v l ((l+m)/2) ((Y [] [m,l] ⟨[4,1,3],[.v (.p .b .a) 2],[.N (.L .a .b)],.L .b .c⟩) w) ((Y [] [m,j,l] ⟨[5,2,3,4],[.v (.p .c .a) 2],[.L .a .b,.N (.L .a .c)],.L .d .b⟩) q w) ((Y [] [l,m,k] ⟨[6,1,2,5,3,7,4],[.s .b .a,.v (.p .a .b) 2,.s .e .a],[.L .a .b,.L .d (.p .c .u),.N (.L .b .a)],.L (.x 6) .c⟩) p r w) s (λn y z=>?_);by_cases u:n=(l+m)/2;·refine u▸?_;exact(by simpa using x:b (i.getD j 0)<b (i.getD ((l+m)/2) 0))
    ·have:=h ((l+m)/2) n ((Y [] [l,m,n] ⟨[5,3,1,4,2],[.v (.p .a .b) 2],[.L .d .c,.N (.E .c .d)],.T .d .c⟩) y u) z;exact bH (of_decide_eq_true x) this
   ·refine(if_neg x)▸?_;have A:=d.ne f (i:=j) (j:=(l+m)/2) g ((Y [] [j,a,m,l] ⟨[6,1,2,4,5],[.v (.p .d .c) 2],[.T .a .b,.L .c .a,.N (.L .c .d)],.T .e .b⟩) g q w) ((Y [] [m,j,l] ⟨[5,2,3,4],[.v (.p .c .a) 2],[.L .a .b,.N (.L .a .c)],.N (.E .b .d)⟩) q w);have B:b (i.getD ((l+m)/2) 0)<b (i.getD j 0):=by exact Int.lt_iff_le_and_ne.mpr ⟨Int.not_lt.mp λC=>x (decide_eq_true C),dT A⟩
    refine v ((l+m)/2+1) m ((Y [] [l,m] ⟨[4,3,2],[.v (.p .a .b) 2],[.L .a .b,.N (.L .b .a)],.L (.p .c .u) .b⟩) p w) q ((Y [] [m,l,k] ⟨[6,1,2,5,3,4,7],[.s .a .b,.v (.p .b .a) 2,.s .a (.p .e .u)],[.L .d (.p .c .u)],.L (.x 6) .c⟩) r) (λn y=>?_) t;by_cases u:n=(l+m)/2;·refine u▸?_;exact B
    ·have:=h n ((l+m)/2) ((Y [] [n,l,m] ⟨[5,2,3,1],[.v (.p .b .c) 2],[.T .a (.p .d .u),.N (.E .a .d)],.T .a .d⟩) y u) ((Y [] [m,j,l] ⟨[5,2,3,4],[.v (.p .c .a) 2],[.L .a .b,.N (.L .a .c)],.T .d .b⟩) q w);exact bH this B
include e f in
theorem TO:∀d(i:Array Nat)j,nj a i->j+d=a->SP b i j->nj a (lY c (kas_bin d i j))/\SP b (lY c (kas_bin d i j)) a:=by
 intro g;induction g with|zero=>
  intro i j h k l;exact⟨h,show SP b i a by have m:j=a:=k;exact m▸l⟩|succ d n=>
  intro i j h k l;refine(u4 c (λo=>kas_bin d (bubble i j (j-o)) (j+1)) (ce i j j 0 j):lY c (kas_bin (d+1) i j)=_).symm▸?_;refine mj (TN e f h (by exact(Y [] [j,d,a] ⟨[1,3,2],[],[.E (.p .a (.p .b .u)) .c],.T .a .c⟩) k:j<a) l j 0 j (by exact Y [] [j] ⟨[1],[],[],.L .o .a⟩) (al _) (by exact Y [] [j] ⟨[1],[.s .a .o],[],.L .b .a⟩) (λp q=>by exact(Y [b (i.getD p 0),b (i.getD j 0)] [p] ⟨[1,3],[],[.T .a .o],.t .a .b⟩) q) (λp r s=>by exact(Y [b (i.getD j 0),b (i.getD p 0)] [j,p] ⟨[1,3],[],[.L .a .b,.T .b .a],.t .a .b⟩) r s)) λt u v=>?_;refine n _ (j+1) (h.yL j _) (by exact(Y [] [j,d,a] ⟨[1],[],[.E (.p .a (.p .b .u)) .c],.E (.p (.p .a .u) .b) .c⟩) k) ?_;intro p w x y;have z:j<i.size:=by rw[h.s];exact(Y [] [j,d,a] ⟨[1,3,2],[],[.E (.p .a (.p .b .u)) .c],.T .a .c⟩) k
  rw[yL z (by exact(Y [] [p,w,j,lY c (ce i j j 0 j)] ⟨[5,4,1,2,3],[.s .c .d],[.T .a .b,.T .b (.p .c .u)],.L .e .c⟩) x y),yL z (by exact(Y [] [p,w,j,lY c (ce i j j 0 j)] ⟨[5,4,1,2,3],[.s .c .d],[.T .a .b,.T .b (.p .c .u)],.L .e .c⟩) x y)];have m:j-(j-lY c (ce i j j 0 j))=lY c (ce i j j 0 j):=by exact(Y [] [lY c (ce i j j 0 j),j] ⟨[1,2],[.s .b .a,.s .b .c],[.L .a .b],.E .d .a⟩) t
  refine m.symm▸?_;generalize lY c (ce i j j 0 j)=o at*;by_cases A:p=o;·rw[if_pos A,if_neg (by exact(Y [] [p,w,o] ⟨[1,2],[],[.T .a .b,.E .a .c],.N (.E .b .c)⟩) x A),if_pos (by exact(Y [] [p,w,j,o] ⟨[1,3,2],[],[.T .a .b,.T .b (.p .c .u),.E .a .d],.A (.T .d .b) (.L .b .c)⟩) x y A)];exact v (w-1) (by exact(Y [] [p,w,o] ⟨[1,2,3],[.s .b .u],[.T .a .b,.E .a .c],.L .c .d⟩) x A) (by exact zx x y)
  ·rw[if_neg A];by_cases B:o<p/\p<=j;·rw[if_pos B,if_neg (by exact(Y [] [p,w,o,j] ⟨[2,4,1],[],[.T .a .b,.A (.T .c .a) (.L .a .d)],.N (.E .b .c)⟩) x B),if_pos (by exact(Y [] [p,w,j,o] ⟨[4,2],[],[.T .a .b,.T .b (.p .c .u),.A (.T .d .a) (.L .a .c)],.A (.T .d .b) (.L .b .c)⟩) x y B)];exact l (p-1) (w-1) (by exact(Y [] [p,w,o,j] ⟨[2,5,4,3,6,1],[.s .a .u,.s .b .u],[.T .a .b,.A (.T .c .a) (.L .a .d)],.T .e .f⟩) x B) (by exact zx x y)
   ·rw[if_neg B];by_cases C:w=o;·rw[if_pos C];exact u p (by exact(Y [] [p,w,o] ⟨[2,1],[],[.T .a .b,.N (.E .a .c),.E .b .c],.T .a .c⟩) x A C)
    ·rw[if_neg C];by_cases E:o<w/\w<=j;·rw[if_pos E];exact l p (w-1) (by exact(Y [] [p,w,j,o] ⟨[5,3,2,4],[.s .b .u],[.T .a .b,.T .b (.p .c .u),.N (.E .a .d),.N (.A (.T .d .a) (.L .a .c)),.A (.T .d .b) (.L .b .c)],.T .a .e⟩) x y A B E) (by exact zx x y)
     ·rw[if_neg E];exact l p w x (by exact(Y [] [w,j,o] ⟨[2,3],[],[.T .a (.p .b .u),.L .c .b,.N (.E .a .c),.N (.A (.T .c .a) (.L .a .b))],.T .a .b⟩) y t C E)
include e f in
theorem TP{d}(g:nj a d)(h:1<=i)(j:i<=a)(k:DP b d i):∃l,lY c (kas_tail3 i a d)=(l,fN d 0 i)/\l<=a/\SP b (fN d 0 i) l/\nj a (fN d 0 i):=by refine nk (HI e f (g.t i) (a-i) i h ((Y [] [i,a] ⟨[1],[.s .b .a],[.L .a .b],.L (.p .a .c) .b⟩) j) (TM (b:=b) (by refine g.s▸?_;exact j) k)) λm n o p=>?_;exact tY _ (by unfold kas_tail3;rw[u4];rfl) ((Y [] [i,a,lY c (d9 (fN d 0 i) (a-i) i)] ⟨[1,3],[.s .b .a],[.L .a .b,.L .c (.p .a .d)],.L .c .b⟩) j n) o (g.t i)
include e f in
theorem TQ(d:nj a i)(g:2<=a):∃j k,lY c (kas_count a i)=(j,k)/\j<=a/\SP b k j/\nj a k:=by
 refine nk (HI e f d (a-1) 1 (al _) ((Y [] [a] ⟨[1],[.s .a .u],[.L (.k 2) .a],.L (.p .u .b) .a⟩) g) (λh l m n=>by exact(Y [b (i.getD h 0),b (i.getD l 0)] [h,l] ⟨[1,3,4],[],[.T .a .b,.T .b .u],.t .a .b⟩) m n:SP b i 1)) λo p q r=>?_;unfold kas_count;rw[u4];generalize lY c (d9 i (a-1) 1)=s at*;by_cases t:(s==a)=I;·rw[if_pos t];exact t0 s i rfl (bV (aG t)) q d
 ·rw[if_neg t];by_cases u:s>1;·rw[if_pos u];refine t0 s i ?_ ((Y [] [a,s] ⟨[1,2],[.s .a .u],[.L (.k 2) .a,.L .b (.p .u .c)],.L .b .a⟩) g p) q d;show lY c (if c (i.getD 0 0) (i.getD (s-1) 0)=I then .ret (s,i)else kas_descPart s a (fN i 0 s))=_;refine(if_pos (by refine ah (wv e d 0 (s-1) ((Y [] [a] ⟨[1],[],[.L (.k 2) .a],.T .o .a⟩) g) ((Y [] [a,s] ⟨[2,3,4,1],[.s .a .u,.s .b .u],[.L (.k 2) .a,.L .b (.p .u .c)],.T .d .a⟩) g p)) ?_;simpa using q 0 (s-1) ((Y [] [s] ⟨[2,1],[.s .a .u],[.L .u .a,.T .u .a],.T .o .b⟩) o u) (wT o):c (i.getD 0 0) (i.getD (s-1) 0)=I))▸?_;rfl
  ·rw[if_neg u];have v:s=1:=by exact(Y [] [s] ⟨[1],[],[.L .u .a,.N (.T .u .a)],.E .a .u⟩) o u
   subst v;have w:DP b i 2:=by
    intro h l m n;have v:h=0:=by exact(Y [] [h,l] ⟨[2,1],[],[.T .a .b,.T .b (.k 2)],.E .a .o⟩) m n
    have x:l=1:=by exact(Y [] [h,l] ⟨[1,2],[],[.T .a .b,.T .b (.k 2),.E .a .o],.E .b .u⟩) m n v
    subst v x;exact r ((Y [] [a] ⟨[1,2],[.s .a .u],[.L (.k 2) .a],.T .u (.p .u .b)⟩) g)
   refine r9 (TL e f d (a-2) 2 (Y [] [] ⟨[],[],[],.L .u (.k 2)⟩) ((Y [] [a] ⟨[1],[.s .a (.k 2)],[.L (.k 2) .a],.L (.p (.k 2) .b) .a⟩) g) w) λj y z A B=>?_;unfold kas_descPart;rw[u4];rw[(y:lY c (fa (a-(1+1)) i (1+1) 0)=(i,j,0))];refine r9 (TP e f d ((Y [] [j] ⟨[1],[],[.L (.k 2) .a],.L .u .a⟩) z) ((Y [] [a,j] ⟨[1,2],[.s .a (.k 2)],[.L (.k 2) .a,.L .b (.p (.k 2) .c)],.L .b .a⟩) g A) B) λC E F G H=>?_;exact t0 C _ E F G H
include e f in
theorem TR(d:2<=a):nj a (lY c (eL a))/\SP b (lY c (eL a)) a:=by
 refine sY (TQ e f (⟨by simp,by simp⟩:nj a (jP (dP a))) d) λg h i j k l=>?_;unfold eL;rw[u4,i];by_cases m:g<a;·rw[if_pos m];refine TO e f (a-max g 1) h (max g 1) l (Nat.add_sub_cancel' (Nat.max_le.mpr ⟨j,ao (by decide) d⟩)) ?_;intro n o p q;exact k n o p ((jV o g).elim id λr=>absurd q (Nat.not_lt.mpr (Nat.max_le.mpr ⟨r,Nat.succ_le_of_lt (iq (bv n) p)⟩)))
 ·rw[if_neg m];have s:g=a:=by exact(Y [] [g,a] ⟨[2],[],[.L .a .b,.N (.T .a .b)],.E .a .b⟩) j m
  rw[s]at k;exact n0 l k
end
theorem HJ{a:Type}(b:a->Int):∀c d:List a,c.Pairwise (λe f=>b e<b f)->d.Pairwise (λe f=>b e<b f)->c.Perm d->c=d:=by
 intro g;induction g with|nil=>
  intro d _ _ h;exact(List.nil_perm.mp h).symm|cons e c i=>
  intro j;induction j with|nil=>
   intro _ _ h;exact(List.perm_nil.mp h)|cons f d=>
   intro k l h;refine lA (List.pairwise_cons.mp k) λm n=>?_;refine lA (List.pairwise_cons.mp l) λo p=>?_;have q:e=f:=by
    have r:e∈f::d:=h.mem_iff.mp (aw ..);have s:f∈e::c:=h.mem_iff.mpr (aw ..);refine aB (List.mem_cons.mp r) (λq=>?_) (λr=>?_);·exact q
    ·refine aB (List.mem_cons.mp s) (λq=>?_) (λs=>?_);·exact q.symm
     ·exact absurd (o e r) (Int.lt_asymm (m f s))
   subst q;exact(i d n p (List.Perm.cons_inv h))▸rfl
theorem TS(a):∀b,b.Pairwise (λc d=>c<d)->a∉b->(td a b).Pairwise (λc d=>c<d):=by
 intro e
 induction e with|nil=>
  intro _ _;exact dS _ _|cons f g h=>
  intro i j;refine lA (List.pairwise_cons.mp i) λk l=>?_;have m:a≠f:=λn=>j (n▸(aw ..));refine Ac (λo=>?_) λo=>?_
  ·refine List.pairwise_cons.mpr ⟨λp q=>?_,i⟩;refine aB (List.mem_cons.mp q) (λn=>?_) (λq=>?_);·subst n;exact(Y [a,p] [] ⟨[1],[],[.N (.e .a .b),.l .a .b],.t .a .b⟩) m o
   ·have:=k p q;exact(Y [a,f,p] [] ⟨[3,1],[],[.N (.e .a .b),.l .a .b,.t .b .c],.t .a .c⟩) m o this
  ·refine List.pairwise_cons.mpr ⟨λp q=>?_,h l (λr=>j (aq _ r))⟩;refine aB (List.mem_cons.mp ((Ae a g).mem_iff.mp q)) (λn=>?_) (λq=>?_);·induction n;exact(Y [p,f] [] ⟨[1],[],[.N (.e .a .b),.N (.l .a .b)],.t .b .a⟩) m o
   ·exact k p q
theorem TU:∀a:List Int,a.Nodup->(rA a).Pairwise (λb c=>b<c):=by intro d;induction d with|nil=>intro _;exact jq|cons e f g=>intro h;refine lA (List.nodup_cons.mp h) λi j=>?_;exact TS e (rA f) (g j) (λk=>i ((Af f).mem_iff.mp k))
theorem TV(a:b.Nodup)(c:∀d∈b,0<=d/\d<4):rA b=ml b:=by
 refine HJ id _ _ (TU b a) ?_ ((Af b).trans ?_);·exact List.Pairwise.sublist de (by decide:l8.Pairwise λe f=>e<f)
 ·exact(fm a (yx b)).mpr λe=>⟨λg=>yz g (c e g),λg=>yw g⟩
theorem TW(a:b.Nodup)(c:∀d∈b,0<=d/\d<4)(e:b.length<64):sh (vL b)=Z ((ml b).map .a):=by unfold sh;refine ah (if_pos (by rw[tN];exact e)) ?_;rw[Bv];dsimp only;exact(TV a c)▸rfl
theorem TX:∀a:List (Int×Int×Int×Int),rx (a.map lW)=Z (a.map λb=>[b.1,b.2.1,b.2.2.1,b.2.2.2]):=by intro c;induction c with|nil=>exact rfl|cons b a d=>show mO iE (nx [.a b.1,.a b.2.1,.a b.2.2.1,.a b.2.2.2]) (rx (a.map lW))=_;refine d▸?_;rfl
theorem TY(a:Int×Int×Int×Int)(b):nx ((a::b).map lW)=D:=rfl
theorem TZ{a:Type}{b c:List a}(d:b.length<2)(e:c.Perm b):b=c:=by induction b with|nil=>exact(List.perm_nil.mp e).symm|cons f b=>induction b with|nil=>exact(List.perm_singleton.mp e).symm|cons=>exact absurd d (Nat.not_lt.mpr (Nat.le_add_left 2 _))
theorem T0(a b:List (Int×Int×Int×Int))(c:b.Perm a)(d:b.Pairwise λe f=>e.1<f.1):ue (a.map λg=>[g.1,g.2.1,g.2.2.1,g.2.2.2]) (a.map lW)=b.map lW:=by
 have h:a.Pairwise λe f=>e.1≠f.1:=by have:b.Pairwise λe f=>e.1≠f.1:=d.imp λi=>Int.ne_of_lt i;exact(c.pairwise_iff (λi=>λj=>i j.symm)).mp this
 unfold ue;rw[ay];by_cases k:a.length<2;·refine ah (if_pos k) ?_;exact(TZ k c)▸rfl
 ·refine ah (if_neg k) ?_;have l:∀e f,e<a.length->f<a.length->(a.getD e cJ).1=(a.getD f cJ).1->e=f:=by
   intro e f m n j;rw[a_,a_,aI m,aI n]at j;by_cases o:e=f;·exact o
   ·refine aB (Nat.lt_or_gt_of_ne o) (λi=>?_) (λi=>?_);·exact(List.pairwise_iff_getElem.mp h e f m n i j).elim
    ·exact(List.pairwise_iff_getElem.mp h f e n m i j.symm).elim
  have p:∀q r,q<a.length->r<a.length->qT ((a.map λg=>[g.1,g.2.1,g.2.2.1,g.2.2.2]).getD q []) ((a.map λg=>[g.1,g.2.1,g.2.2.1,g.2.2.2]).getD r [])=aE ((λs=>(a.getD s cJ).1) q<(λs=>(a.getD s cJ).1) r):=by
   intro q r t u;have v:(a.map λg=>[g.1,g.2.1,g.2.2.1,g.2.2.2]).getD q []=[(a.getD q cJ).1,(a.getD q cJ).2.1,(a.getD q cJ).2.2.1,(a.getD q cJ).2.2.2]:=by refine ah (a_) ?_;refine(dt)▸?_;rw[a_,aI t];rfl
   have w:(a.map λg=>[g.1,g.2.1,g.2.2.1,g.2.2.2]).getD r []=[(a.getD r cJ).1,(a.getD r cJ).2.1,(a.getD r cJ).2.2.1,(a.getD r cJ).2.2.2]:=by refine ah (a_) ?_;refine(dt)▸?_;rw[a_,aI u];rfl
   refine v▸?_;refine w▸?_;by_cases x:q=r;·induction x;exact(if_pos rfl).trans ((if_pos rfl).trans ((if_pos rfl).trans ((if_pos rfl).trans (decide_eq_false (Int.lt_irrefl _)).symm)))
   ·have y:=λj=>x (l q r t u j);exact((if_neg y):(if(a.getD q cJ).1=(a.getD r cJ).1 then _ else aE ((a.getD q cJ).1<(a.getD r cJ).1))=_)
  refine lA (TR (a:=a.length) (b:=λs=>(a.getD s cJ).1) p l ((Y [] [a.length] ⟨[1],[],[.N (.T .a (.k 2))],.L (.k 2) .a⟩) k)) λz A=>?_;generalize lY (λq r=>qT ((a.map λg=>[g.1,g.2.1,g.2.2.1,g.2.2.2]).getD q []) ((a.map λg=>[g.1,g.2.1,g.2.2.1,g.2.2.2]).getD r [])) (eL a.length)=B at*;have C:B.toList.map (λq=>(a.map lW).getD q .g)=(B.toList.map λq=>a.getD q cJ).map lW:=by refine ah ?_ List.map_map.symm;refine hY λq t=>?_;show(a.map lW).getD q .g=lW (a.getD q cJ);refine ah (a_) ?_;refine(dt)▸?_;rw[a_,aI (by have:=z.p.mem_iff.mp t;simpa using this:q<a.length)];rfl
  refine C▸?_;congr 1;refine HJ (λg:Int×Int×Int×Int=>g.1) _ _ ?_ d ?_;·rw[List.pairwise_iff_getElem];intro q r t u x;rw[ay,cF,z.s]at t u;rw[iI,iI];have:=A q r x u;rw[(z.d t).1,(z.d u).1]at this;exact this
  ·have E:(B.toList.map λq=>a.getD q cJ).Perm ((dP a.length).map λq=>a.getD q cJ):=z.p.map _;have F:(dP a.length).map (λq=>a.getD q cJ)=a:=by refine List.ext_getElem (by simp) λq E F=>?_;rw[iI,List.getElem_range,a_,aI F];rfl
   rw[F]at E;exact E.trans c.symm
theorem T1(a b:List (Int×Int×Int×Int))(c:a.length<64)(d:b.Perm a)(e:b.Pairwise λf g=>f.1<g.1):sh (a.map lW)=Z (b.map lW):=by unfold sh;refine ah (if_pos (by rw[ay];exact c)) ?_;induction a with|nil=>refine(List.perm_nil.mp d).symm▸?_;rfl|cons h a=>rw[TY];rw[TX];dsimp only;rw[if_pos,T0 (h::a) b d e];rw[dB];intro i j;refine ll (List.mem_map.mp j) λk _ l=>?_;refine l▸?_;rfl
end
section
theorem HL(a:lz b c=Z d):(b,d)∈c:=by unfold lz at a;cases e:c.find? (λf=>aE (f.1=b))with|none=>replace a:=e▸a;cases a|some f=>replace a:=e▸a;cases a;have g:=i5 e;simp only[decide_eq_true_eq]at g;induction g;exact(fG e)
theorem yM{a:List (Int×Int×Int)}{b:Int×Int×Int}(c:(a.map (·.1)).Nodup)(d:b∈a):lz b.1 a=Z b.2:=by
 induction a with|nil=>cases d|cons e a f=>
  refine lA (List.nodup_cons.mp c) λg h=>?_;rw[qK];refine aB (List.mem_cons.mp d) (λi=>?_) (λd=>?_);·refine i▸?_;exact(if_pos rfl)
  ·refine ah (if_neg (λi=>g (List.mem_map.mpr ⟨b,d,i.symm⟩))) ?_;exact f h d
noncomputable def qk(a:List (Int×Int×Int)):List (Int×Int×Int×Int):=a.map λb=>(16*b.1,b.2.1,b.2.2,16)
noncomputable def qo(a:List (Int×Int×Int)):List (Int×Int×Int×Int):=a.map λb=>(64*b.1,b.2.1,b.2.2,64)
noncomputable def me(a b:List (Int×Int×Int))(c:List Int)(d:Int->Int):List (Int×Int×Int×Int):=l8.flatMap λe=>wh e (oH b c d e) (mX a e)
theorem T2{a:Int->Option (Int×Int)}:b∈nQ c a↔∃d e,(0<=d/\d<4)/\a d=Z e/\b=((c*4+d)*16,e.1,e.2,16):=by
 unfold nQ;rw[List.mem_flatMap];constructor;·rintro⟨d,f,g⟩;cases h:a d with|none=>replace g:=h▸g;cases g|some e=>replace g:=h▸g;exact mh d e (pM f) h (List.mem_singleton.mp g)
 ·rintro⟨d,e,f,h,rfl⟩;refine lQ d ?_ (by refine h▸?_;exact List.mem_singleton.mpr rfl);have:d=0\/d=1\/d=2\/d=3:=by exact(Y [d] [] ⟨[1],[],[.A (.l .o .a) (.t .a (.k 4))],.O (.e .a .o) (.O (.e .a .u) (.O (.e .a (.k 2)) (.e .a (.k 3))))⟩) f
  rcases this with rfl|rfl|rfl|rfl<;>decide
theorem T3(a)(b:Int->Option (Int×Int)):(nQ a b).Pairwise λc d=>c.1<d.1:=by
 have e:∀f g,g∈(match b f with|some h=>[((a*4+f)*16,h.1,h.2,16)]|D=>[]:List (Int×Int×Int×Int))->g.1=(a*4+f)*16:=λf g i=>by cases j:b f with|none=>rw[j]at i;exact nomatch i|some h=>replace i:=j▸i;exact congrArg f7 (List.mem_singleton.mp i)
 refine List.pairwise_flatMap.mpr ⟨λf _=>?_,(by decide:l8.Pairwise (·<·)).imp λ{f k}l g i h m=>?_⟩;·cases b f with|none=>exact .nil|some h=>exact dS _ _
 ·refine(e f g i)▸?_;exact(e k h m)▸((Y [f,k,a] [] ⟨[1],[],[.t .a .b],.t (.w (.p (.w .c 4) .a) 16) (.w (.p (.w .c 4) .b) 16)⟩) l)
section
variable{e:Q}{b a:List (Int×Int×Int)}{c:List Int}{d:Int->Int}{f:Nat}
theorem u5(e:MD b a c){g:Int×Int×Int×Int}:g∈wh h (oH a c d h) (mX b h)↔(∃i,lz h a=Z i/\g=(64*h,i.1,i.2,64))\/∃j i,(0<=j/\j<4)/\lz (h*4+j) b=Z i/\g=(16*(h*4+j),i.1,i.2,16):=by
 have f:(h*4+0)*16=64*h:=by exact Y [h] [] ⟨[],[],[],.e (.w (.p (.w .a 4) .o) 16) (.m 64 .a)⟩
 have k:∀j,(h*4+j)*16=16*(h*4+j):=λj=>by exact Y [h,j] [] ⟨[],[],[],.e (.w (.p (.w .a 4) .b) 16) (.m 16 (.p (.w .a 4) .b))⟩
 unfold oH;cases l:lz h a with|some i=>
  show g∈[((h*4+0)*16,i.1,i.2,64)]↔_;rw[bc,f];constructor;·intro m;exact .inl ⟨i,rfl,m⟩
  ·rintro(⟨n,o,m⟩|⟨j,n,p,o,m⟩);·cases o;exact m
   ·have q:=(e.c _ n o).2.2.1;have r:(h*4+j)/4=h:=by exact(Y [j,h] [] ⟨[2,1],[.d (.p (.w .b 4) .a) 4],[.A (.l .o .a) (.t .a (.k 4))],.e .c .b⟩) p
    rw[r]at q;exact((e.a h i l).2.2.1 q).elim|none=>
  by_cases s:h∈c
  ·simp only[s,if_true];show g∈nQ h (mX b h)↔_;rw[T2];constructor;·rintro⟨j,i,p,t,m⟩;exact .inr ⟨j,i,p,t,by refine ah m ?_;rw[k]⟩
   ·rintro(⟨n,o,m⟩|⟨j,n,p,o,m⟩);·exact nn o
    ·exact mh j n p o (by refine m▸?_;rw[k])
  ·simp only[s,if_false];show g∈[]↔_;constructor;·intro m;cases m
   ·rintro(⟨n,o,m⟩|⟨j,n,p,o,m⟩);·exact nn o
    ·have q:=(e.c _ n o).2.2.1;have r:(h*4+j)/4=h:=by exact(Y [j,h] [] ⟨[2,1],[.d (.p (.w .b 4) .a) 4],[.A (.l .o .a) (.t .a (.k 4))],.e .c .b⟩) p
     rw[r]at q;exact(s q).elim
theorem HM(e:MD b a c):(me b a c d).Pairwise λg a=>g.1<a.1:=by
 unfold me;rw[List.pairwise_flatMap];constructor
 ·intro f _;unfold oH;cases lz f a with|some h=>exact dS _ _|none=>
   by_cases i:f∈c;·simp only[i,if_true];exact T3 _ _
   ·simp only[i,if_false];exact jq
 ·have j:l8.Pairwise λg a=>g<a:=by decide
  refine j.imp ?_;intro f k l m n h o;rcases(u5 e).mp n with⟨_,_,rfl⟩|⟨p,_,q,_,rfl⟩<;>rcases(u5 e).mp o with⟨_,_,rfl⟩|⟨r,_,s,_,rfl⟩<;>dsimp only<;>lia
theorem HN(e:MD b a c):(me b a c d).Perm (qk b++qo a):=by
 have f:(qk b).Nodup:=by have:=List.pairwise_map.mp e.ok;exact List.pairwise_map.mpr (this.imp λg h=>g (jK (by decide) (congrArg f7 h)))
 have i:(qo a).Nodup:=by have:=List.pairwise_map.mp e.d;exact List.pairwise_map.mpr (this.imp λg h=>g (jK (by decide) (congrArg f7 h)))
 have j:(qk b++qo a).Nodup:=by refine List.nodup_append.mpr ⟨f,i,λk l m n h=>?_⟩;refine ll (List.mem_map.mp l) λo _ p=>?_;subst p;refine ll (List.mem_map.mp n) λq _ p=>?_;induction p;exact absurd (congrArg (λr:Int×Int×Int×Int=>r.2.2.2) h) (by decide:(16:Int)≠64)
 refine(fm ((HM e).imp λg h=>Int.ne_of_lt g (congrArg f7 h):(me b a c d).Nodup) j).mpr λk=>?_;unfold me;rw[List.mem_flatMap,List.mem_append];constructor
 ·rintro⟨s,_,l⟩;refine aB ((u5 e).mp l) (λt=>ll t λm n u=>?_) (λv=>lP v λw m x n y=>?_);·refine u▸?_;exact .inr (List.mem_map.mpr ⟨(s,m),HL n,rfl⟩)
  ·refine y▸?_;exact .inl (List.mem_map.mpr ⟨(s*4+w,m),HL n,rfl⟩)
 ·have z:∀s:Int,0<=s->s<4->s∈l8:=by
   intro s A B;have:s=0\/s=1\/s=2\/s=3:=by exact(Y [s] [] ⟨[1],[],[.l .o .a,.t .a (.k 4)],.O (.e .a .o) (.O (.e .a .u) (.O (.e .a (.k 2)) (.e .a (.k 3))))⟩) A B
   rcases this with rfl|rfl|rfl|rfl<;>decide
  rintro(g|g)
  ·refine ll (List.mem_map.mp g) λo C p=>?_;refine p▸?_;have n:=yM e.ok C;refine nk (e.c _ _ n) λE F G H=>?_;have h:o.1/4*4+o.1%4=o.1:=by exact sg
   exact lQ (o.1/4) (z _ (zp E) ((Y [o.fst] [] ⟨[1,2],[.d .a 4],[.t .a (.k 16)],.t .b (.k 4)⟩) F)) ((u5 e).mpr (.inr ⟨o.1%4,o.2,wQ,by refine h.symm▸?_;exact n,h.symm▸rfl⟩))
  ·refine ll (List.mem_map.mp g) λo C p=>?_;refine p▸?_;have n:=yM e.d C;refine nk (e.a _ _ n) λE F G H=>?_;exact lQ o.1 (z _ E F) ((u5 e).mpr (.inl ⟨o.2,n,rfl⟩))
end
section
variable(a:Q)(b:Nat)(d:Int->Int)(c:List Int)
theorem T4(e:MD a.b a.c c)(f:a.b.length+a.c.length<64)(g):Rs (g+30) 890 [.b 16,.b 17] a b (.c ((me a.b a.c c d).map lW)):=by
 have h:∀g,(kX lj (g+20)).ev [(27,.a (.b 16)),(28,.a (.b 17))] (.lc (.e [.k .Mult (.f (.a 16)) (.b 38),.j (.j (.b 27) (.b 38)) (.f (.a 0)),.j (.j (.b 27) (.b 38)) (.f (.a 1)),.f (.a 16)]) (dp 38) 0 [.b 27] []) ⟨St a,b⟩=.ok (.c ((qk a.b).map lW)) ⟨St a,b⟩:=by
  intro g;have i:lS (kX lj (g+19)) [(27,.a (.b 16)),(28,.a (.b 17))] I 0 [.b 27] ⟨St a,b⟩=.ok (a.b.map λj=>.a j.1) ⟨St a,b⟩:=by show R.ok ((vP a.b).map λk=>V.a k.1) _=_;unfold vP;rw[b_];rfl
  refine(pL (λj:Int×Int×Int=>V.a j.1) (λj l=>k9 38 (.a (.a j.1)) l) (λ_ _=>rfl) (λj=>lW (16*j.1,j.2.1,j.2.2,16)) a.b i (ao (iS _ _) (ao (bB f) (by decide))) λj m=>?_).trans ?_;·have n:=yM e.ok m;have o:=e.c _ _ n;have p:=wf (b:=j.1) ⟨zb o.1,(Y [j.fst] [] ⟨[1],[],[.t .a (.k 16)],.t .a (.k 1000000000000000)⟩) o.2.1⟩;have q:=wr a b n;exact l7 m8 [.o _ _ (p),.v _ _ (q),.v _ _ (q)] (by kernel_rfl)
  ·refine List.map_map.symm▸?_;rfl
 have r:∀g l,kZ 28 l=Z (.a (.b 17))->(kX lj (g+20)).ev l (.lc (.e [.k .Mult (.f (.a 64)) (.b 33),.j (.j (.b 28) (.b 33)) (.f (.a 0)),.j (.j (.b 28) (.b 33)) (.f (.a 1)),.f (.a 64)]) (dp 33) 0 [.b 28] []) ⟨St a,b⟩=.ok (.c ((qo a.c).map lW)) ⟨St a,b⟩:=by
  intro g l s;have i:lS (kX lj (g+19)) l I 0 [.b 28] ⟨St a,b⟩=.ok (a.c.map λj=>.a j.1) ⟨St a,b⟩:=by refine(M.lO (sJ s)).trans ?_;show R.ok ((vP a.c).map λk=>V.a k.1) _=_;refine List.map_map.symm▸?_;rfl
  refine(pL (λj:Int×Int×Int=>V.a j.1) (λj l=>k9 33 (.a (.a j.1)) l) (λ_ _=>rfl) (λj=>lW (64*j.1,j.2.1,j.2.2,64)) a.c i (ao (Nat.le_add_left _ _) (ao (bB f) (by decide))) λj m=>?_).trans ?_;·have n:=yM e.d m;have o:=e.a _ _ n;have p:=GK (b:=j.1) ⟨zb o.1,(Y [j.fst] [] ⟨[1],[],[.t .a (.k 4)],.t .a (.k 1000000000000000)⟩) o.2.1⟩;have q:=Hu a b n;exact l7 (GW.lu.k9 (la s lD) (33) (LV.a (V.a j.fst))) [.o _ _ (p),.v _ _ (q),.v _ _ (q)] (by kernel_rfl)
  ·unfold qo;refine List.map_map.symm▸?_;rfl
 have t:lU .Add (.c ((qk a.b).map lW)) (.c ((qo a.c).map lW))=Z (.c ((qk a.b++qo a.c).map lW)):=by refine ah (if_pos (by delta qk qo mE;simp only[ay];exact(Y [] [a.b.length,a.c.length] ⟨[1],[],[.T (.p .a .b) (.k 64)],.L (.p .a .b) (.k 1048576)⟩) f)) ?_;exact dO▸rfl
 have u:∀v,l6 .c [.c ((qk a.b++qo a.c).map lW)] v=.ok (.c ((me a.b a.c c d).map lW)) v:=by intro v;show uh ((qk a.b++qo a.c).map lW) v=_;unfold uh;refine(T1 _ (me a.b a.c c d) (by delta qk qo;simp only[aW,ay];exact(Y [] [a.b.length,a.c.length] ⟨[1],[],[.T (.p .a .b) (.k 64)],.T (.p .a .b) (.k 64)⟩) f) (HN e) (HM e))▸?_;rfl
 exact ah QB (Qr (oV (Bd (h (g+8))) (xr (Qq (Gf (Bc rfl (r (g+6) [(27,.a (.b 16)),(28,.a (.b 17)),(32,.a (.c ((qk a.b).map lW)))] rfl) t) (u _))))))
end
end
section
section
variable{b:Q}{a c:List (Int×Int×Int)}{e:List Int}{d:Int->Int}{f:Nat}
noncomputable def BF:Option (Int×Int)->Int->V|some g,h=>.a (g.1+h)|D,_=>.g
noncomputable def BG(a c:List (Int×Int×Int))(b:Int):V:=match lz (b/64) c with|some g=>.a (g.1+b%64)|D=>BF (lz (b/16) a) (b%16)
theorem T5(g:l0 b a c e d f)(h:f<=4000)(i)(j:0<=k)(l:k<256)(m):Rs (m+40) 320 [.b 10,.a 512,.a k] b i (BG a c k):=by
 have n:=g.e.w;unfold BG;cases o:lz (k/64) c with|some p=>exact Ru m b i k p.1 p.2 j l (mm h n rfl) (g.d.e _ p o) (g.c.a _ p o).2.2.2.1 (g.c.a _ p o).2.2.2.2|none=>
  by_cases q:k/64∈e
  ·have r:=g.a.nH q;have s:=g.g q (k/16%4) zi zj;have t:k/64*4+k/16%4=k/16:=by exact zl
   unfold mX at s;rw[t]at s;have u:=g.d.a _ q;cases v:lz (k/16) a with|none=>replace s:=v▸s;exact GV m b i k (d (k/64)) D j l (mm h n rfl) u (qQ r) r.2.1 s.1 s.2|some w=>rw[v]at s;exact GV m b i k (d (k/64)) (Z w) j l (mm h n rfl) u (qQ r) r.2.1 s.1 s.2
  ·have x:lz (k/16) a=D:=by
    cases y:lz (k/16) a with|none=>rfl|some p=>
     have:=(g.c.c _ p y).2.2.1;have t:k/16/4=k/64:=by exact wN
     rw[t]at this;exact(q this).elim
   refine x.symm▸?_;exact Rr m b i k j l (mm h n rfl) (g.d.c _ (zm j) (zn l) o q)
noncomputable def BH:Option (Int×Int)->Int->V|some g,h=>if pJ g.2 then .a (g.1+h)else .e [.a 13]|D,_=>.e [.a 13]
noncomputable def BJ(a c:List (Int×Int×Int))(b:Int):V:=match lz (b/64) c with|some g=>if pJ g.2 then .a (g.1+b%64)else .e [.a 13]|D=>BH (lz (b/16) a) (b%16)
theorem T6(g:l0 b a c e d f)(h:f<=4000)(i)(j:0<=k)(l:k<256):∃m,∀n,Rq (n+60) 263 [.b 15,.a 512,.a k,.d sQ,.a 0] b i (BJ a c k) b m:=by
 have o:=g.e.w;unfold BJ;cases p:lz (k/64) c with|some q=>exact⟨i,λn=>Ry n b i k q.1 q.2 j l (mm h o rfl) (g.d.e _ q p) (g.c.a _ q p).2.2.2.1 (g.c.a _ q p).2.2.2.2⟩|none=>
  by_cases r:k/64∈e
  ·have s:=g.a.nH r;have t:=g.g r (k/16%4) zi zj;have u:k/64*4+k/16%4=k/16:=by exact zl
   unfold mX at t;replace t:=u▸t;have v:=g.d.a _ r;cases w:lz (k/16) a with|none=>rw[w]at t;exact G0 b i k (d (k/64)) D j l (mm h o rfl) v (qQ s) s.2.1 t.1 t.2|some x=>rw[w]at t;exact G0 b i k (d (k/64)) (Z x) j l (mm h o rfl) v (qQ s) s.2.1 t.1 t.2
  ·have y:lz (k/16) a=D:=by
    cases z:lz (k/16) a with|none=>rfl|some q=>
     have:=(g.c.c _ q z).2.2.1;have u:k/16/4=k/64:=by exact wN
     rw[u]at this;exact(r this).elim
   refine y.symm▸?_;exact⟨i+1+3,λn=>Rw n b i k j l (mm h o rfl) (g.d.c _ (zm j) (zn l) p r)⟩
end
section
variable{a:Q}{b:Int->Int}{c:Nat}
theorem T7(d:l0 a a.b a.c a.a b c)(e:c<=4000)(f:a.b.length<=4096)(g)(h:0<=i/\i<16):∃j,∀k,Rq (k+80) 897 [.b 10,.b 15,.a 512,.b 16,.b 17,.a i] a g (.h I) a j:=by
 refine lp (T6 d e g (k:=16*i+3) (zy h) (zz h)) λj l=>?_;have m:=λk=>yu d e g (k:=16*i+3) (zy h) (zz h) k;have n:=λk=>T5 d e g (k:=16*i+3) (zy h) (zz h) k;refine⟨j,λk=>?_⟩;have o:(16*i+3)/64=i/4:=by exact Y [i] [] ⟨[2,1],[.d (.p (.m 16 .a) (.k 3)) 64,.d .a 4],[],.e .b .c⟩
 have p:(16*i+3)/16=i:=by exact Y [i] [] ⟨[1],[.d (.p (.m 16 .a) (.k 3)) 16],[],.e .b .a⟩
 have q:(16*i+3)%16=3:=by exact(Y [i] [] ⟨[1,3],[.m (.p (.m 16 .a) (.k 3)) 16],[.e .b .a],.e .c (.k 3)⟩) p
 have r:(16*i+3)%64=16*(i%4)+3:=by exact(Y [i] [] ⟨[1,2,3],[.m (.p (.m 16 .a) (.k 3)) 64,.m .a 4],[.e .b .d],.e .c (.p (.m 16 .e) (.k 3))⟩) o
 have s:∀i t,qu lj 96 16 [.a i,t] ⟨St a,g⟩=.ok ((mL i (vP a.b)).getD t) ⟨St a,g⟩:=λi t=>by show(if(vP a.b).length<=4096 then _ else _)=_;refine ah (if_pos (by rw[yr];exact f)) ?_;rfl
 have u:=wf (b:=i) ⟨(Y [i] [] ⟨[1],[],[.A (.l .o .a) (.t .a (.k 16))],.t (.k (-1000000000000000)) .a⟩) h,(Y [i] [] ⟨[1],[],[.A (.l .o .a) (.t .a (.k 16))],.t .a (.k 1000000000000000)⟩) h⟩;have v:=wf (b:=i%4) ⟨Y [i] [] ⟨[1,3],[.m .a 4],[],.t (.k (-1000000000000000)) .c⟩,Y [i] [] ⟨[1,3],[.m .a 4],[],.t .c (.k 1000000000000000)⟩⟩;have w:ae 0 18=0:=rfl;unfold uZ at m;unfold BG at n;unfold BJ at l;replace m:=p▸o▸m;rw[o,p,q,r]at n l;have x:sQ=[108,111,97,100]:=rfl;replace l:=x▸l;cases y:lz (i/4) a.c with
 |some z=>
  have A:lz i a.b=D:=by cases B:lz i a.b with|none=>rfl|some C=>exact((d.c.a _ z y).2.2.1 (d.c.c _ C B).2.2.1).elim
  have E:=(d.c.a _ z y).2.2.2.1;have F:=E.1;have G:qu lj 96 16 [.a i,.e [.g,.a 0]] ⟨St a,g⟩=.ok (.e [.g,.a 0]) ⟨St a,g⟩:=(s i _).trans (by rw[rX,A];rfl);have H:mz .In (.a (i/4)) (.b 17) ⟨St a,g⟩=.ok I ⟨St a,g⟩:=(r7 a g (i/4)).trans (by rw[y];rfl);have J:=Hu a g y;have L:=ya (b:=z.1/16) ⟨zA F,zC F⟩;have M:=GI E.2.2.1;have N:(ae z.2 18==18)=pJ z.2:=M;rw[y]at m n l;dsimp only[lF]at m n l;have O:z.1+(16*(i%4)+3)=z.1+16*(i%4)+3:=by exact Y [z.fst,i] [] ⟨[],[.m .b 4],[],.e (.p .a (.p (.m 16 .d) (.k 3))) (.p (.p .a (.m 16 .d)) (.k 3))⟩
  rw[O]at n l;cases P:pJ z.2 with|true=>rw[P,if_pos rfl]at l;rw[P]at N;exact ah (b:=.ok (.h (z.1+16*(i%4)+3==z.1+16*(i%4)+3)) _) (lq [.v _ _ G,.t _ _ H,.y,.v _ _ J,.n,.o _ _ L,.y,.t _ _ H,.y,.y,.o _ _ v,.o _ _ u,.v _ _ (m (k+45)),.b _ _ (congrArg dF (beq_self_eq_true (z.1/16*1024+z.2))),.v _ _ (n (k+35)),.n,.b _ _ (congrArg dF (beq_self_eq_true (z.1+16*(i%4)+3))),.n,.b _ _ N,.v _ _ (l (k+16))] (by kernel_rfl)) (congrArg (λQ=>R.ok (V.h Q) _) (beq_self_eq_true _))|false=>rw[P,if_neg dQ]at l;rw[P]at N;exact lq [.v _ _ G,.t _ _ H,.y,.v _ _ J,.n,.o _ _ L,.y,.t _ _ H,.y,.y,.o _ _ v,.o _ _ u,.v _ _ (m (k+45)),.b _ _ (congrArg dF (beq_self_eq_true (z.1/16*1024+z.2))),.v _ _ (n (k+35)),.n,.b _ _ (congrArg dF (beq_self_eq_true (z.1+16*(i%4)+3))),.n,.b _ _ N,.v _ _ (l (k+16))] (by kernel_rfl)
 |none=>rw[y]at m n l;cases A:lz i a.b with|none=>rw[A]at m n l;dsimp only[pI,BF,BH]at m n l;have G:qu lj 96 16 [.a i,.e [.g,.a 0]] ⟨St a,g⟩=.ok (.e [.g,.a 0]) ⟨St a,g⟩:=(s i _).trans (by rw[rX,A];rfl);have H:mz .In (.a (i/4)) (.b 17) ⟨St a,g⟩=.ok ak ⟨St a,g⟩:=(r7 a g (i/4)).trans (by rw[y];rfl);exact lq [.v _ _ G,.t _ _ H,.n,.y,.n,.n,.o _ _ u,.v _ _ (m (k+45)),.n,.v _ _ (n (k+35)),.y,.n,.n,.n,.v _ _ (l (k+16))] (by kernel_rfl)|some z=>have E:=(d.c.c _ z A).2.2.2;have F:=E.1;have G:qu lj 96 16 [.a i,.e [.g,.a 0]] ⟨St a,g⟩=.ok (.e [.a z.1,.a z.2]) ⟨St a,g⟩:=(s i _).trans (by rw[rX,A];rfl);have H:mz .In (.a (i/4)) (.b 17) ⟨St a,g⟩=.ok ak ⟨St a,g⟩:=(r7 a g (i/4)).trans (by rw[y];rfl);have L:=ya (b:=z.1/16) ⟨zA F,zC F⟩;have M:=GI E.2.2.1;have N:(ae z.2 18==18)=pJ z.2:=M;rw[A]at m n l;dsimp only[pI,BF,BH,lF]at m n l;cases P:pJ z.2 with|true=>rw[P,if_pos rfl]at l;rw[P]at N;exact ah (b:=.ok (.h (z.1+3==z.1+3)) _) (lq [.v _ _ G,.t _ _ H,.n,.n,.o _ _ L,.y,.t _ _ H,.n,.n,.o _ _ u,.v _ _ (m (k+45)),.b _ _ (congrArg dF (beq_self_eq_true (z.1/16*1024+z.2))),.v _ _ (n (k+35)),.n,.b _ _ (congrArg dF (beq_self_eq_true (z.1+3))),.n,.b _ _ N,.v _ _ (l (k+16))] (by kernel_rfl)) (congrArg (λQ=>R.ok (V.h Q) _) (beq_self_eq_true _))|false=>rw[P,if_neg dQ]at l;rw[P]at N;exact lq [.v _ _ G,.t _ _ H,.n,.n,.o _ _ L,.y,.t _ _ H,.n,.n,.o _ _ u,.v _ _ (m (k+45)),.b _ _ (congrArg dF (beq_self_eq_true (z.1/16*1024+z.2))),.v _ _ (n (k+35)),.n,.b _ _ (congrArg dF (beq_self_eq_true (z.1+3))),.n,.b _ _ N,.v _ _ (l (k+16))] (by kernel_rfl)
theorem ww(d)(e):nu d (.a e) (.a e)=Z I:=by cases d<;>exact congrArg Z (beq_self_eq_true e)
theorem T8(d)(e):nu d (.h e) (.h e)=Z I:=by cases d<;>exact congrArg Z (beq_self_eq_true e)
theorem BK(d:V->V->Option Bool):∀e:List V,(∀f∈e,d f f=Z I)->pS d e e=Z I:=by intro a;induction a with|nil=>intro _;exact rfl|cons f e b=>intro c;show mO and (d f f) (pS d e e)=_;rw[c f (aw ..),b λg h=>c g (aq _ h)];rfl
theorem yN(a:∀d∈e,nu 7 d d=Z I)(f):mz .NotEq (.c e) (.c e) f=.ok ak f:=by show M.c ((pS (nu 7) e e).map (!·)) f=_;refine(BK _ _ a)▸?_;rfl
theorem T9(d:Int×Int×Int×Int):nu 7 (lW d) (lW d)=Z I:=by refine(BK _ _ λa b=>?_:pS (nu 6) [.a d.1,.a d.2.1,.a d.2.2.1,.a d.2.2.2] [.a d.1,.a d.2.1,.a d.2.2.1,.a d.2.2.2]=_);simp only[cy,bY,or_false]at b;rcases b with rfl|rfl|rfl|rfl<;>exact ww _ _
theorem T_(d):nu 7 (mv d) (mv d)=Z I:=by refine(BK _ _ λa b=>?_:pS (nu 6) [.a d.1,.a d.2] [.a d.1,.a d.2]=_);simp only[cy,bY,or_false]at b;rcases b with rfl|rfl<;>exact ww _ _
theorem Ua(d:List (Int×Int×Int×Int))(e):mz .NotEq (.c (d.map lW)) (.c (d.map lW)) e=.ok ak e:=yN (λa b=>by obtain⟨c,_,rfl⟩:=List.mem_map.mp b;exact T9 c) e
theorem Ub(d:List (Int×Int))(e):mz .NotEq (.c (d.map mv)) (.c (d.map mv)) e=.ok ak e:=yN (λa b=>by obtain⟨c,_,rfl⟩:=List.mem_map.mp b;exact T_ c) e
theorem yO(d:List Int)(e):mz .NotEq (.c (d.map .a)) (.c (d.map .a)) e=.ok ak e:=yN (λa b=>by obtain⟨c,_,rfl⟩:=List.mem_map.mp b;exact ww _ _) e
noncomputable def sW(a c:List (Int×Int×Int))(d:List Int)(b:Int->Int):List (Int×Int):=l8.flatMap λe=>pN e (oH c d b e) (mX a e)
noncomputable def qP(a:Int×Int×Int×Int):Int×Int:=(a.1,a.2.1/16*1024+a.2.2.1)
theorem Uc{d e:Type}(f:d->Bool)(g:d->e):∀h:List d,(h.filter f).map g=h.flatMap λi=>if f i then[g i]else[]:=by intro a;induction a with|nil=>exact rfl|cons b h c=>refine cq▸?_;refine ah ?_ List.flatMap_cons.symm;refine c▸?_;cases f b<;>rfl
theorem HO{d e:Type}{f g:d->List e}{h:List d}(a:∀i∈h,f i=g i):h.flatMap f=h.flatMap g:=by induction h with|nil=>rfl|cons i h b=>refine ah dv ?_;refine ah ?_ List.flatMap_cons.symm;exact(a i (aw ..))▸(b λc j=>a c (aq _ j))▸rfl
theorem Ud{d}(e)(f)(a:Int->Option (Int×Int))(b:G7 d e f)(c:∀g,f=.t g->yl d a g):(pN e f a).map (λh=>(h.1,lI d (h.2/4)))=(wh e f a).map qP:=by
 induction f with
 |n=>rfl|b i j=>
  show[((e*4+0)*16,lI d ((512+4*e)/4))]=[((e*4+0)*16,i/16*1024+j)];have k:(512+4*e)/4=128+e:=by exact za
  rw[k,b.1];rfl|t g=>
  have l:=c g rfl;show((l8.filter λm=>qc (a m)).map λm=>((e*4+m)*16,g+4*m)).map (λh=>(h.1,lI d (h.2/4)))=(nQ e a).map qP;unfold nQ;refine ah b_ ?_;rw[Uc,eD];refine HO λm c=>?_;refine lA (pM c) λn o=>?_;have k:(g+4*m)/4=g/4+m:=by exact(Y [g,m] [] ⟨[3,2,6,1,5,4],[.m .a 16,.d (.p .a (.m 4 .b)) 4,.d .a 4],[.e .d .o],.e .e (.p .f .b)⟩) (b.2.2)
  have p:=(l m n o).1;cases q:a m with|none=>rfl|some r=>rw[q]at p;show[((e*4+m)*16,lI d ((g+4*m)/4))]=[((e*4+m)*16,r.1/16*1024+r.2)];refine k▸?_;refine p▸?_;rfl
end
end
section
noncomputable def wx(a:Int×Int×Int×Int)(b:Ro):Ro:=k9 21 (.a (.a a.2.2.2)) (k9 25 (.a (.a a.2.2.1)) (k9 58 (.a (.a a.2.1)) (k9 36 (.a (.a a.1)) b)))
section
variable{a:Q}{b:Int->Int}{c:Nat}
theorem Ue(a:MD d e f)(c:g∈me d e f b):0<=g.2.1/\g.2.1<4096:=by
 refine ll (List.mem_flatMap.mp c) λh _ c=>?_;refine aB ((u5 a).mp c) (λi=>ll i λj k l=>?_) (λm=>lP m λn j o k p=>?_);·refine l▸?_;exact(a.a _ _ k).2.2.2.1.1
 ·refine p▸?_;exact(a.c _ _ k).2.2.2.1
theorem Uf(d:l0 a a.b a.c a.a b c)(e:f∈sW a.b a.c a.a b):0<=f.2/\f.2+4<=1024/\f.2%4=0:=by refine ll (List.mem_flatMap.mp e) λg h e=>?_;refine lA (pM h) λi j=>?_;have k:=(d.f g i j).1;generalize oH a.c a.a b g=l at*;induction l with|n=>cases e|b m n=>rw[show pN g (.b m n) (mX a.b g)=[((g*4+0)*16,512+4*g)]from rfl,bc]at e;refine e▸?_;exact(Y [g] [] ⟨[3,2,1],[.m (.p (.k 512) (.m 4 .a)) 4],[.l .o .a,.t .a (.k 4)],.A (.l .o (.p (.k 512) (.m 4 .a))) (.A (.l (.p (.p (.k 512) (.m 4 .a)) (.k 4)) (.k 1024)) (.e .c .o))⟩) i j|t o=>refine ll (List.mem_map.mp e) λp q r=>?_;refine r▸?_;refine lA (pM (List.mem_filter.mp q).1) λs t=>?_;have:=k.2;exact(Y [p,o] [] ⟨[2,4,6,5,1,3],[.m .b 16,.m (.p .b (.m 4 .a)) 4],[.l .o .a,.t .a (.k 4),.A (.A (.l .o .b) (.l .b (.k 1000))) (.e .d .o)],.A (.l .o (.p .b (.m 4 .a))) (.A (.l (.p (.p .b (.m 4 .a)) (.k 4)) (.k 1024)) (.e .f .o))⟩) s t this
theorem Ug(a:MD d e f):(me d e f b).length=d.length+e.length:=by refine ah ((HN a).length_eq) ?_;refine ah aW ?_;delta qk qo;rw[ay,ay]
theorem Uh(d:l0 a a.b a.c a.a b c)(e:c<=4000)(f:a.b.length+a.c.length<=16)(g:a.a.length<64)(h)(i):Rs (i+100) 907 [.b 1,.b 6,.b 10,.a 512,.b 16,.b 17,.b 18,.a a.lE] a h (.h I):=by
 have j:=d.e.w;have k:=d.a.e;have l:(me a.b a.c a.a b).length<=16:=by exact(Ug d.c)▸f
 have m:∀i,Rs (i+50) 384 [.b 10,.a 512] a h (.c ((me a.b a.c a.a b).map lW)):=R8 a h (oH a.c a.a b) (mX a.b) (mm e j rfl) d.f;have n:∀i,Rs (i+40) 377 [.b 10,.a 512] a h (.c ((ml a.a).map λo=>mv (o,b o))):=by have p:=Br a h (oH a.c a.a b) (mX a.b) (mm e j rfl) d.f;replace p:=b_▸(Bt d.c)▸p;exact p
 have q:l6 .c [.b 18] ⟨St a,h⟩=.ok (.c ((ml a.a).map .a)) ⟨St a,h⟩:=by show uh (vL a.a) _=_;unfold uh;refine(TW d.a.c d.c.mg g)▸?_;rfl
 have r:∀(i:Nat)(s:Ro),kZ 34 s=Z (.a (.b 10))->kZ 35 s=Z (.a (.a 512))->(kX lj (i+60)).ev s (.lc (.b 33) (jp [33,39]) 0 [.p (.b 34) 112 [.b 35]] []) ⟨St a,h⟩=.ok (.c ((ml a.a).map .a)) ⟨St a,h⟩:=by
  intro i s t u;have v:lS (kX lj (i+59)) s I 0 [.p (.b 34) 112 [.b 35]] ⟨St a,h⟩=.ok ((ml a.a).map λo=>mv (o,b o)) ⟨St a,h⟩:=by exact tH _ (l7 (la u (la t lD)) [.v _ _ (n (i+18))] (by kernel_rfl))
  exact pL (λo=>mv (o,b o)) (λo s=>k9 39 (.a (.a (b o))) (k9 33 (.a (.a o)) s)) (λ_ _=>rfl) V.a (ml a.a) v (ao (bp ..) (by decide)) λw x=>by exact l7 (GW.lu.k9 (GW.lu.k9 (la u (la t lD)) (33) (LV.a (V.a w))) (39) (LV.a (V.a (b w)))) [] (by kernel_rfl)
 have y:(sW a.b a.c a.a b).map (λz=>(z.1,lI a.ws (z.2/4)))=(me a.b a.c a.a b).map qP:=by delta sW me;refine ah eD ?_;refine ah ?_ List.map_flatMap.symm;refine HO λo a0=>?_;refine lA (pM a0) λA B=>?_;exact Ud o _ _ (d.f o A B).1 (d.f o A B).2
 have a3:(sW a.b a.c a.a b).length<=16:=by have:=congrArg List.length y;rw[ay,ay]at this;exact(Y [] [(me a.b a.c a.a b).length,(sW a.b a.c a.a b).length] ⟨[1,2],[],[.L .a (.k 16),.E .b .a],.L .b (.k 16)⟩) l this
 have a4:∀(i:Nat)(s:Ro),kZ 34 s=Z (.a (.b 10))->kZ 35 s=Z (.a (.a 512))->kZ 41 s=Z (.a (.b 1))->(kX lj (i+60)).ev s (.lc (.e [.b 36,.p (.b 41) 107 [.b 148]]) (jp [36,148]) 0 [.p (.b 34) 149 [.b 35]] []) ⟨St a,h⟩=.ok (.c (((me a.b a.c a.a b).map qP).map mv)) ⟨St a,h⟩:=by
  intro i s t u C;have v:lS (kX lj (i+59)) s I 0 [.p (.b 34) 149 [.b 35]] ⟨St a,h⟩=.ok ((sW a.b a.c a.a b).map mv) ⟨St a,h⟩:=by exact tH _ (l7 (la C (la u (la t lD))) [.v _ _ ((R_ a h (oH a.c a.a b) (mX a.b) (mm e j rfl) d.f:∀i,Rs (i+50) 403 [.b 10,.a 512] a h (.c ((sW a.b a.c a.a b).map mv))) (i+8))] (by kernel_rfl))
  exact(pL mv (λz s=>k9 148 (.a (.a z.2)) (k9 36 (.a (.a z.1)) s)) (λ_ _=>rfl) (λz=>mv (z.1,lI a.ws (z.2/4))) (sW a.b a.c a.a b) v (ao a3 (by decide)) λz E=>by refine mj (Uf d E) λa5 a6 a7=>?_;exact l7 (GW.lu.k9 (GW.lu.k9 (la C (la u (la t lD))) (36) (LV.a (V.a z.fst))) (148) (LV.a (V.a z.snd))) [.v _ _ ((λi=>ri i a h z.2 a5 a6 a7 (mm e j rfl)) (i+45))] (by kernel_rfl)).trans (congrArg (λF=>R.ok (V.c F) _) ((b_ (g:=mv) (f:=λz:Int×Int=>(z.1,lI a.ws (z.2/4)))).symm.trans (congrArg (b9 mv) y)))
 have a8:∀(i:Nat)(s:Ro),kZ 44 s=Z (.a (.c ((me a.b a.c a.a b).map lW)))->(kX lj (i+60)).ev s (.lc (.e [.b 36,.k .Add (.k .Mult (.k .FloorDiv (.b 58) (.f (.a 16))) (.f (.a 1024))) (.b 25)]) (jp [36,58,25,21]) 0 [.b 44] []) ⟨St a,h⟩=.ok (.c (((me a.b a.c a.a b).map qP).map mv)) ⟨St a,h⟩:=by
  intro i s G;have v:lS (kX lj (i+59)) s I 0 [.b 44] ⟨St a,h⟩=.ok ((me a.b a.c a.a b).map lW) ⟨St a,h⟩:=by exact tH _ (l7 (g:=i) (la G lD) [] (by kernel_rfl))
  exact(pL lW wx (λ_ _=>rfl) (λz=>mv (qP z)) (me a.b a.c a.a b) v (ao l (by decide)) λz E=>by have H:=Ue d.c E;exact l7 (GW.lu.k9 (GW.lu.k9 (GW.lu.k9 (GW.lu.k9 (la G lD) (36) (LV.a (V.a z.fst))) (58) (LV.a (V.a z.snd.fst))) (25) (LV.a (V.a z.snd.snd.fst))) (21) (LV.a (V.a z.snd.snd.snd))) [.o _ _ ((ya (b:=z.2.1/16) ⟨zA H,zC H⟩))] (by kernel_rfl)).trans (congrArg (λF=>R.ok (V.c F) _) (b_ (g:=mv) (f:=qP)).symm)
 obtain⟨J,p,a9,L⟩:=uX (b:=kX lj (i+98)) (h:=.inr [36,58,25,21]) (p:=fb 5 (nM 907)) (q:=⟨St a,h⟩) (m:=46) lW wx (λ_ _=>rfl) (λs=>kZ 34 s=Z (.a (.b 10))/\kZ 35 s=Z (.a (.a 512))/\kZ 42 s=Z (.a (.b 6))/\kZ 43 s=Z (.a (.a a.lE))/\kZ 29 s=Z (.a (.b 18))) (λM=>[.d (oG M)]) (me a.b a.c a.a b) [(41,.a (.b 1)),(42,.a (.b 6)),(34,.a (.b 10)),(35,.a (.a 512)),(27,.a (.b 16)),(28,.a (.b 17)),(29,.a (.b 18)),(43,.a (.a a.lE)),(44,.a (.c ((me a.b a.c a.a b).map lW))),(45,.a (.c (((me a.b a.c a.a b).map qP).map mv))),(46,.b [])] [] ⟨rfl,rfl,rfl,rfl,rfl⟩ rfl ((Y [] [(me a.b a.c a.a b).length] ⟨[1],[],[.L .a (.k 16)],.L (.p .o (.m 4 .a)) (.k 100)⟩) l) (by intro _ _;simp) (by
  rintro M b0 s N⟨b1,b2,b3,b4,b5⟩b6 c1;have O:N.length<=4096:=by exact lk c1 rfl
  have c2:kZ 25 (wx M s)=Z (.a (.a M.2.2.1)):=(GW.nE _ _ rfl).trans (GW.nW _ _ _);have P:=λi=>Si M.2.2.1 i (wx M s) ⟨St a,h⟩ c2;have Q:so lj [] [.c ((qe M.2.2.1).map λc3=>.d [c3])] ⟨St a,h⟩=.ok (.d (qe M.2.2.1)) ⟨St a,h⟩:=rfl;have S:GW.lu (k9 21 (.a (.a M.2.2.2)) (k9 25 (.a (.a M.2.2.1)) (k9 58 (.a (.a M.2.1)) (k9 36 (.a (.a M.1)) [(46,.b N),(29,.a (.b 18)),(43,.a (.a a.lE)),(42,.a (.b 6)),(35,.a (.a 512)),(34,.a (.b 10))])))) (wx M s):=GW.lu.k9 (GW.lu.k9 (GW.lu.k9 (GW.lu.k9 (la b6 (la b5 (la b4 (la b3 (la b2 (la b1 lD)))))) 36 _) 58 _) 25 _) 21 _;delta oG uY;cases T:M.2.2.2==64 with|true=>exact oU (i:=[(34,.a (.b 10)),(35,.a (.a 512)),(42,.a (.b 6)),(43,.a (.a a.lE)),(29,.a (.b 18)),(46,.b (N++[.d (nR M.1++[32]++nR M.2.1++[32]++qe M.2.2.1++[42])]))]) (ot S [.v _ _ (P (i+77)),.v _ _ Q,.v _ _ (yp M.1 (i+71) ⟨St a,h⟩),.v _ _ (yp M.2.1 (i+72) ⟨St a,h⟩),.o _ _ (by refine T.symm▸?_;rfl:lU .Mult (.d [42]) (.a (if M.2.2.2==64 then 1 else 0))=Z (.d [42])),.b _ _ (mG (O:N.length<=4096))] (by kernel_rfl)) λJ U=>⟨⟨U 34 _ rfl,U 35 _ rfl,U 42 _ rfl,U 43 _ rfl,U 29 _ rfl⟩,U 46 _ rfl⟩|false=>exact oU (i:=[(34,.a (.b 10)),(35,.a (.a 512)),(42,.a (.b 6)),(43,.a (.a a.lE)),(29,.a (.b 18)),(46,.b (N++[.d (nR M.1++[32]++nR M.2.1++[32]++qe M.2.2.1++[])]))]) (ot S [.v _ _ (P (i+77)),.v _ _ Q,.v _ _ (yp M.1 (i+71) ⟨St a,h⟩),.v _ _ (yp M.2.1 (i+72) ⟨St a,h⟩),.o _ _ (by refine T▸?_;rfl:lU .Mult (.d [42]) (.a (if M.2.2.2==64 then 1 else 0))=Z (.d [])),.b _ _ (mG (O:N.length<=4096))] (by kernel_rfl)) λJ U=>⟨⟨U 34 _ rfl,U 35 _ rfl,U 42 _ rfl,U 43 _ rfl,U 29 _ rfl⟩,U 46 _ rfl⟩);have c4:((me a.b a.c a.a b).flatMap λM=>[V.d (oG M)])=((me a.b a.c a.a b).map oG).map .d:=by refine ah ?_ List.map_map.symm;exact Hi _ _
 rw[c4]at L;obtain⟨t,u,c5,c6,d0⟩:=a9;have d1:∀i s W,kZ 44 s=Z (.a (.c ((me a.b a.c a.a b).map lW)))->lS (kX lj (i+1)) s ak 0 [.b 44] W=.ok ((me a.b a.c a.a b).map lW) W:=λi s W d2=>xW d2;have d3:(a.lE-a.e+a.d.length==a.lE-1-a.a.length)=I:=by rw[beq_iff_eq];exact(Y [a.e,a.lE] [a.d.length,a.a.length] ⟨[1],[],[.e .a (.p (.p (.n .a) .u) (.n .b))],.e (.p (.s .b .a) (.n .a)) (.s (.s .b .u) (.n .b))⟩) k
 have Q:=Hh [10] ((me a.b a.c a.a b).map oG) ⟨St a,h⟩ (by rw[ay];exact lk l rfl) (by intro w x;obtain⟨M,_,rfl⟩:=List.mem_map.mp x;have:=Hg M;exact lk this rfl) (by decide);have d4:=T4 a h b a.a d.c ((Y [] [a.b.length,a.c.length] ⟨[1],[],[.L (.p .a .b) (.k 16)],.T (.p .a .b) (.k 64)⟩) f);exact(lq [.v _ _ (d4 (i+67)),.v _ _ (m (i+45)),.t _ _ (Ua (me a.b a.c a.a b) ⟨St a,h⟩),.n,.v _ _ (r (i+36) [(41,.a (.b 1)),(42,.a (.b 6)),(34,.a (.b 10)),(35,.a (.a 512)),(27,.a (.b 16)),(28,.a (.b 17)),(29,.a (.b 18)),(43,.a (.a a.lE)),(44,.a (.c ((me a.b a.c a.a b).map lW)))] rfl rfl),.v _ _ q,.t _ _ (yO (ml a.a) ⟨St a,h⟩),.n,.n,.v _ _ (a4 (i+38) [(41,.a (.b 1)),(42,.a (.b 6)),(34,.a (.b 10)),(35,.a (.a 512)),(27,.a (.b 16)),(28,.a (.b 17)),(29,.a (.b 18)),(43,.a (.a a.lE)),(44,.a (.c ((me a.b a.c a.a b).map lW)))] rfl rfl rfl),.v _ _ (a8 (i+37) [(41,.a (.b 1)),(42,.a (.b 6)),(34,.a (.b 10)),(35,.a (.a 512)),(27,.a (.b 16)),(28,.a (.b 17)),(29,.a (.b 18)),(43,.a (.a a.lE)),(44,.a (.c ((me a.b a.c a.a b).map lW))),(45,.a (.c (((me a.b a.c a.a b).map qP).map mv)))] rfl),.t _ _ (Ub ((me a.b a.c a.a b).map qP) ⟨St a,h⟩),.n,.s _ _ _ _ _ (qa lj (d1 (i+97) [(41,.a (.b 1)),(42,.a (.b 6)),(34,.a (.b 10)),(35,.a (.a 512)),(27,.a (.b 16)),(28,.a (.b 17)),(29,.a (.b 18)),(43,.a (.a a.lE)),(44,.a (.c ((me a.b a.c a.a b).map lW))),(45,.a (.c (((me a.b a.c a.a b).map qP).map mv))),(46,.b [])] ⟨St a,h⟩ rfl) p) (la L (la d0 (la c6 (la c5 (la u (la t lD)))))),.v _ _ (Sj a h (me a.b a.c a.a b) l m (i+36)),.v _ _ Q,.b _ _ (congrArg dF (beq_self_eq_true (qs [10] ((me a.b a.c a.a b).map oG))):(!qs [10] ((me a.b a.c a.a b).map oG)==qs [10] ((me a.b a.c a.a b).map oG))=ak),.v _ _ ((λi=>yg i a h ((Y [a.e,a.lE] [a.d.length,a.a.length] ⟨[1,2,4,3],[],[.e .a (.p (.p (.n .a) .u) (.n .b)),.l .a .b,.l .b (.k 5)],.L .a (.k 4096)⟩) k (d.a.b) (d.a.c2))) (i+86)),.v _ _ (Bm a h ((Y [] [a.a.length] ⟨[1],[],[.T .a (.k 64)],.L .a (.k 4096)⟩) g))] (by kernel_rfl)).trans (congrArg (λX=>R.ok (V.h X) ⟨St a,h⟩) d3)
end
end
section
theorem U6(a)(b)(c:d.c a=Z e):(kX d (f+1)).ev g (.r a b) h=M.bind (mw (kX d f) g b) (λi=>su (kX d f) a e i) h:=by show M.bind (mw (kX d f) g b) (λi=>M.lG (d.c a) λe=>su (kX d f) a e i) h=_;refine c▸?_;rfl
section
variable(n:Q)(o:Nat)
noncomputable def LA(a b c:Int):List (Nat×V):=[(56,.a a),(57,.a (a-2)),(58,.a b),(59,.a c),(60,.a (b*c)),(23,.a (b*c*c))]
structure no(k P M:Int):Prop where
 k1:4<=k
 k2:k<=12
 p1:(2:Int)^k.toNat=P
 m1:(2:Int)^(k-2).toNat=M
 pm:P=4*M
 b:4<=M/\M<=1024
 g:∀x:Int,0<=x->ae x (P-1)=x%P
 aM:∀x:Int,0<=x->ae x (M-1)=x%M
 l:∀x y:Int,0<=x->0<=y->y<P->ai (x*P) y=x*P+y
 m:∀x y:Int,0<=x->0<=y->y<M->ai (x*M) y=x*M+y
theorem Ui(a:Nat)(b:a<=8):no (4+a) ((2^(4+a):Nat):Int) ((2^(2+a):Nat):Int):=by
 have c:(2^(4+a):Nat)=4*2^(2+a):=by refine ah (congrArg _ (show 4+a=2+a+2 by exact Y [] [a] ⟨[],[],[],.E (.p (.k 4) .a) (.p (.p (.k 2) .a) (.k 2))⟩)) ?_;rw[Nat.pow_add];exact Nat.mul_comm _ 4
 have d:2^2<=2^(2+a):=kM (Y [] [] ⟨[],[],[],.T .o (.k 2)⟩) (Y [] [a] ⟨[1],[],[],.L (.k 2) (.p (.k 2) .a)⟩);have e:2^(2+a)<=2^10:=kM (Y [] [] ⟨[],[],[],.T .o (.k 2)⟩) ((Y [] [a] ⟨[1],[],[.L .a (.k 8)],.L (.p (.k 2) .a) (.k 10)⟩) b);refine⟨Y [] [a] ⟨[1],[],[],.l (.k 4) (.p (.k 4) (.n .a))⟩,(Y [] [a] ⟨[1],[],[.L .a (.k 8)],.l (.p (.k 4) (.n .a)) (.k 12)⟩) b,?_,?_,(Y [] [2^(4+a),2^(2+a)] ⟨[1],[],[.E .a (.m 4 .b)],.e (.n .a) (.m 4 (.n .b))⟩) c,(Y [] [2^(2+a)] ⟨[1],[],[.L (.k 4) .a,.L .a (.k 1024)],.A (.l (.k 4) (.n .a)) (.l (.n .a) (.k 1024))⟩) d e,λf g=>Bj _ g,λf g=>Bj _ g,λf h g i j=>uV _ g i j,λf h g i j=>uV _ g i j⟩;·exact(rfl:((4+a:Int)).toNat=4+a)▸((Int.natCast_pow 2 (4+a)).symm)
 ·exact((congrArg iK (Y [] [a] ⟨[],[],[],.e (.s (.p (.k 4) (.n .a)) (.k 2)) (.n (.p (.k 2) .a))⟩:(4+a:Int)-2=((2+a:Nat):Int))).trans (rfl:(((2+a:Nat):Int)).toNat=2+a)).symm▸((Int.natCast_pow 2 (2+a)).symm)
section
variable{m g b:Int}(l:no m g b)
include l
theorem no.c:0<g:=(Y [b,g] [] ⟨[2,1],[],[.A (.l (.k 4) .a) (.l .a (.k 1024)),.e .b (.m 4 .a)],.t .o .b⟩) l.b l.pm
theorem no.d:g<=4096:=(Y [b,g] [] ⟨[2,1],[],[.A (.l (.k 4) .a) (.l .a (.k 1024)),.e .b (.m 4 .a)],.l .b (.k 4096)⟩) l.b l.pm
theorem no.e:(-1000000000000000)<g/\g<1000000000000000:=⟨bH (by decide) l.c,bt l.d (by decide)⟩
theorem no.f:(-1000000000000000)<b/\b<1000000000000000:=⟨bX (by decide) l.b.1,bt l.b.2 (by decide)⟩
theorem no.a:0<b:=bX (by decide) l.b.1
theorem no.i(a:0<=p/\p<b):0<=p*b/\p*b<=1048576:=⟨cC a.1 (bj l.a),bx (Int.mul_le_mul (bx (bj a.2) l.b.2) l.b.2 (bj l.a) (by decide)) (by decide)⟩
theorem no.j:(-1000000000000000)<g*b/\g*b<1000000000000000:=⟨bX (by decide) (cC (bj l.c) (bj l.a)),bt (Int.mul_le_mul l.d l.b.2 (bj l.a) (by decide)) (by decide)⟩
theorem no.h:(0<=m&&aE (m<=1000))=I:=Bool.and_eq_true_iff.mpr ⟨decide_eq_true (bx (by decide) l.k1),decide_eq_true (bx l.k2 (by decide))⟩
theorem no.k:(0<=m-2&&aE (m-2<=1000))=I:=Bool.and_eq_true_iff.mpr ⟨decide_eq_true (Int.sub_nonneg.mpr (bx (by decide) l.k1)),decide_eq_true (bx (Int.sub_le_self m (by decide)) (bx l.k2 (by decide)))⟩
theorem Uj(a):Rt (a+20) 122 [.b 20,.a m] ⟨St n++[MO.b [],MO.a 182 19],o⟩ .g ⟨St n++[MO.b (LA m g b),MO.a 182 19],o+1+1+1+1+1+1⟩:=by
 have c:lU .LShift (.a 1) (.a m)=Z (.a g):=by refine ah (sL (c:=1) m (by decide) l.h) ?_;rw[l.p1,cW]
 have d:lU .LShift (.a 1) (.a (m-2))=Z (.a b):=by refine ah (sL (c:=1) (m-2) (by decide) l.k) ?_;rw[l.m1,cW]
 exact lq [.b _ _ (mG (l.k1)),.b _ _ (congrArg dF (mG (l.k2))),.o _ _ c,.o _ _ d,.o _ _ (oE l.e l.f),.o _ _ (oE l.j l.f)] (by kernel_rfl)
theorem BL(a)(c:0<=a)(d):Rt (d+10) 144 [.b 20,.a a] ⟨St n++[MO.b (LA m g b),MO.a 182 19],o⟩ (.a (a-a%g)) ⟨St n++[MO.b (LA m g b),MO.a 182 19],o⟩:=by refine ah (b:=.ok (.a (ae a (br (g-1)))) _) ?_ (congrArg (λe=>R.ok (V.a e) _) (by rw[iU,l.g a c]));exact lq [] (by kernel_rfl)
theorem Uk(a)(c:0<=a)(d):Rt (d+20) 151 [.b 20,.a a] ⟨St n++[MO.b (LA m g b),MO.a 182 19],o⟩ (.a (a+g-1-(a+g-1)%g)) ⟨St n++[MO.b (LA m g b),MO.a 182 19],o⟩:=by exact lq [.v _ _ ((BL n o l (a+g-1) ((Y [a,b,g] [] ⟨[3,1,2],[],[.l .o .a,.A (.l (.k 4) .b) (.l .b (.k 1024)),.e .c (.m 4 .b)],.l .o (.s (.p .a .c) .u)⟩) c (l.b) (l.pm))) (d+7))] (by kernel_rfl)
theorem Ul(a)(c:0<=a)(d):Rt (d+10) 158 [.b 20,.a a] ⟨St n++[MO.b (LA m g b),MO.a 182 19],o⟩ (.h (a%g==0)) ⟨St n++[MO.b (LA m g b),MO.a 182 19],o⟩:=by refine ah (b:=.ok (.h (ae a (g-1)==0)) _) ?_ (congrArg (λe=>R.ok (V.h (e==0)) _) (l.g a c));exact lq [] (by kernel_rfl)
theorem HP(a c)(d:0<=a)(e)(f:a<c->qr [.a (a-a%g),.a c,.a g]=Z e)(h:¬a<c->e=[])(i):Rt (i+30) 165 [.b 20,.a a,.a c] ⟨St n++[MO.b (LA m g b),MO.a 182 19],o⟩ (.c e) ⟨St n++[MO.b (LA m g b),MO.a 182 19],o⟩:=by
 by_cases j:a<c
 ·have k:l6 .u [.a (a-a%g),.a c,.a g] ⟨St n++[MO.b (LA m g b),MO.a 182 19],o⟩=.ok (.c e) ⟨St n++[MO.b (LA m g b),MO.a 182 19],o⟩:=by show Mine.Internal.M.bind (Mine.Internal.M.c (qr [.a (a-a%g),.a c,.a g])) (λp=>Mine.Internal.M.pure (V.c p)) _=_;refine(f j)▸?_;rfl
  have q:=BL n o l a d;exact lq [.b _ _ (mG j),.v _ _ (q (i+15)),.v _ _ k] (by kernel_rfl)
 ·have r:=h j;subst r;exact lq [.b _ _ (rh (j:¬(a<c)))] (by kernel_rfl)
theorem Um(a c d)(e:0<=a/\a<b)(f:0<=c/\c<b)(h:0<=d/\d<g)(i):Rt (i+20) 137 [.b 20,.a a,.a c,.a d] ⟨St n++[MO.b (LA m g b),MO.a 182 19],o⟩ (.a ((a*b+c)*g+d)) ⟨St n++[MO.b (LA m g b),MO.a 182 19],o⟩:=by
 have j:=l.i e;have k:lU .LShift (.a a) (.a (m-2))=Z (.a (a*b)):=by refine ah (sL (c:=a) (m-2) ⟨bX (by decide) e.1,bH e.2 l.f.2⟩ l.k) ?_;exact l.m1.symm▸rfl
 have p:lU .LShift (.a (ai (a*b) c)) (.a m)=Z (.a ((a*b+c)*g)):=by rw[l.m a c e.1 f.1 f.2,sL (c:=a*b+c) m ⟨bX (by decide) (ei j.1 f.1),bt (Int.add_le_add j.2 (bx (bj f.2) l.b.2)) (by decide)⟩ l.h,l.p1]
 refine ah (b:=.ok (.a (ai ((a*b+c)*g) d)) _) ?_ (congrArg (λq=>R.ok (V.a q) _) (l.l (a*b+c) d (ei j.1 f.1) h.1 h.2));exact lq [.o _ _ k,.o _ _ p] (by kernel_rfl)
theorem Un(a c d)(e:0<=a/\a<b)(f:0<=c/\c<b)(h:0<=d/\d<g)(i):Rt (i+20) 129 [.b 20,.a ((a*b+c)*g+d)] ⟨St n++[MO.b (LA m g b),MO.a 182 19],o⟩ (.e [.a a,.a c,.a d]) ⟨St n++[MO.b (LA m g b),MO.a 182 19],o⟩:=by
 have j:=l.k1;have k:=l.b;have p:=l.pm;have q:0<=a*b:=cC e.1 (by exact(Y [b] [] ⟨[1],[],[.A (.l (.k 4) .a) (.l .a (.k 1024))],.l .o .a⟩) k);have r:0<=(a*b+c)*g:=cC (by exact(Y [c,b,a*b] [] ⟨[2,1,3],[],[.A (.l .o .a) (.t .a .b),.l .o .c],.l .o (.p .c .a)⟩) f q) (by exact(Y [b,g] [] ⟨[2,1],[],[.A (.l (.k 4) .a) (.l .a (.k 1024)),.e .b (.m 4 .a)],.l .o .b⟩) k p);have s:((a*b+c)*g+d)/g=a*b+c:=by rw[eh,eo _ _ (by exact(Y [b,g] [] ⟨[2,1],[],[.A (.l (.k 4) .a) (.l .a (.k 1024)),.e .b (.m 4 .a)],.N (.e .b .o)⟩) k p),gw h.1 h.2,ef]
 have t:(a*b+c)/b=a:=by rw[eh,eo _ _ (by exact(Y [b] [] ⟨[1],[],[.A (.l (.k 4) .a) (.l .a (.k 1024))],.N (.e .a .o)⟩) k),gw f.1 f.2,ef]
 have u:(a*b+c)%b=c:=by rw[eh,jr];exact(iD f.1 f.2)
 have v:((a*b+c)*g+d)%g=d:=by rw[eh,jr];exact(iD h.1 h.2)
 have w:(a*b+c)*g+d<g*b*b:=(by
  have x:a*b+c+1<=b*b:=by have:(a+1)*b<=b*b:=iX (by exact(Y [a,b] [] ⟨[2],[],[.A (.l .o .a) (.t .a .b)],.l (.p .a .u) .b⟩) e) (by exact(Y [b] [] ⟨[1],[],[.A (.l (.k 4) .a) (.l .a (.k 1024))],.l .o .a⟩) k);rw[gR,cW]at this;exact(Y [c,b,a*b,b*b] [] ⟨[2,3],[],[.A (.l .o .a) (.t .a .b),.l (.p .c .b) .d],.l (.p (.p .c .a) .u) .d⟩) f this
  have y:(a*b+c+1)*g<=b*b*g:=iX x (by exact(Y [b,g] [] ⟨[2,1],[],[.A (.l (.k 4) .a) (.l .a (.k 1024)),.e .b (.m 4 .a)],.l .o .b⟩) k p);exact bX (Int.add_lt_add_left h.2 _) (bx (gm (by rw[gR _ 1,cW]:(a*b+c)*g+g=(a*b+c+1)*g)) (bx y (gm ((e_ (b*b) g).trans (fV g b b).symm)))));have z:0<=(a*b+c)*g+d:=ei r h.1;refine ah (b:=.ok (.e [.a a,.a (ae (a*b+c) (b-1)),.a (ae ((a*b+c)*g+d) (g-1))]) _) ?_ (by rw[l.aM (a*b+c) (ei q f.1),l.g _ z,u,v]);exact lq [.b _ _ (mG z),.b _ _ (congrArg dF (mG w)),.d _ _ ((if_pos (bx (by decide) j)).trans (by refine l.p1.symm▸?_;exact s.symm▸rfl):lU .RShift (.a ((a*b+c)*g+d)) (.a m)=Z (.a (a*b+c))),.d _ _ ((if_pos (Int.sub_nonneg.mpr (bx (by decide) j))).trans (by refine l.m1.symm▸?_;exact t.symm▸rfl):lU .RShift (.a (a*b+c)) (.a (m-2))=Z (.a a))] (by kernel_rfl)
end
end
end
section
noncomputable def rg(a b:Int):Nat->List Int|0=>[]|c+1=>a::rg (a+b) b c
theorem Uo(a):∀b c,si c a b=(rg c a b).map .a:=by intro d;induction d with|zero=>intro _;exact rfl|succ b e=>intro c;show V.a c::si (c+a) a b=_;rw[e];rfl
theorem Up(a):∀b c,(rg c 1 b).map (·*a)=rg (c*a) a b:=by intro d;induction d with|zero=>intro _;exact rfl|succ b e=>intro c;show c*a::(rg (c+1) 1 b).map (·*a)=c*a::rg (c*a+a) a b;rw[e,gR,cW]
theorem Uq(a):∀b c,(rg c a b).length=b:=by intro d;induction d with|zero=>intro _;exact rfl|succ b e=>intro c;show(rg (c+a) a b).length+1=_;rw[e]
theorem Ur{a:Int}:∀b c d,d∈rg c 1 b->c<=d/\d<c+b:=by
 intro e
 induction e with|zero=>
  intro _ _ f;cases f|succ b g=>
  intro c d f;refine aB (List.mem_cons.mp f) (λh=>?_) (λf=>?_);·refine h▸?_;exact Y [d] [b] ⟨[2],[],[],.A (.l .a .a) (.t .a (.p .a (.n (.p .a .u))))⟩
  ·have:=g (c+1) d f;exact(Y [c,d] [b] ⟨[3,1],[],[.A (.l (.p .a .u) .b) (.t .b (.p (.p .a .u) (.n .a)))],.A (.l .a .b) (.t .b (.p .a (.n (.p .a .u))))⟩) this
theorem HQ(a b c)(d:Nat)(e:cR a b c=I)(f:aY a b c=d)(g:d<=4096)(h:0<c)(i:c<10000):te a b c=Z ((rg a c d).map .a):=by unfold te;rw[f,e,decide_eq_true (dR d:0<=(d:Int)),decide_eq_true (show(d:Int)<=4096 from Int.ofNat_le.mpr g),decide_eq_true (cA h:c≠0),decide_eq_true (Int.ofNat_lt.mp (by rw[cX (bj h)];exact bH i (by decide)):c.natAbs<1073741824)];exact congrArg Z (Uo c d a)
theorem HR{a b c}(d:-100000<a/\a<100000)(e:-100000<b/\b<100000)(f:0<c/\c<100000):cR a b c=I:=by
 have g:0<=aY a b c/\aY a b c<=400000:=by
  unfold aY;refine(if_pos f.1)▸?_;split;·rename_i h;exact(Y [a,b,(b-a-1)/c] [] ⟨[1,2,3],[],[.A (.t (.k (-100000)) .a) (.t .a (.k 100000)),.A (.t (.k (-100000)) .b) (.t .b (.k 100000)),.l .o .c,.l .c (.s (.s .b .a) .u)],.A (.l .o (.p .c .u)) (.l (.p .c .u) (.k 400000))⟩) d e (cV (a:=b-a-1) (b:=c) ((Y [a,b] [] ⟨[1],[],[.t .a .b],.l .o (.s (.s .b .a) .u)⟩) h) ((Y [c] [] ⟨[1],[],[.A (.t .o .a) (.t .a (.k 100000))],.l .o .a⟩) f)) (iW c ((Y [a,b] [] ⟨[1],[],[.t .a .b],.l .o (.s (.s .b .a) .u)⟩) h:0<=b-a-1))
  ·exact Y [] [] ⟨[],[],[],.A (.l .o .o) (.l .o (.k 400000))⟩
 unfold cR;refine(if_pos f.1).symm▸?_;generalize aY a b c=i at*;unfold Builtin.Range.rangeFitsLong;simp;exact(Y [a,b,c,i] [] ⟨[2,3,4,1],[],[.A (.t (.k (-100000)) .a) (.t .a (.k 100000)),.A (.t (.k (-100000)) .b) (.t .b (.k 100000)),.A (.t .o .c) (.t .c (.k 100000)),.A (.l .o .d) (.l .d (.k 400000))],.A (.A (.A (.A (.A (.l (.k (-9223372036854775808)) .a) (.t .a (.k 9223372036854775808))) (.A (.l (.k (-9223372036854775808)) .b) (.t .b (.k 9223372036854775808)))) (.A (.l (.k (-9223372036854775808)) .c) (.t .c (.k 9223372036854775808)))) (.A (.l (.k (-9223372036854775808)) .d) (.t .d (.k 9223372036854775808)))) (.O (.e .d .o) (.A (.l (.k (-9223372036854775808)) (.p .b (.s .c .u))) (.t (.p .b (.s .c .u)) (.k 9223372036854775808))))⟩) d e f g
theorem Us(a)(b:a=3\/a=13)(c d)(e):Rx (d+20) 122 [.b c,.a a] e ⟨52,0⟩ ⟨e.σ,e.mu+1⟩:=by
 rcases b with rfl|rfl;·exact lq [.n,.y,.y] (by kernel_rfl)
 ·exact lq [.y,.y,.y] (by kernel_rfl)
theorem Ut(a)(b:a=3\/a=13)(c)(d):su (kX lj (c+20)) 182 122 [.a a] d=.c ⟨52,0⟩ ⟨d.σ++[MO.b [],MO.a 182 d.σ.length],d.mu+1⟩:=by unfold su;rw[Us a b];rfl
theorem Uu(a b)(c)(d):mz .NotEq (.c [.a a,.a b,.h c]) (.c [.a a,.a b,.h c]) d=.ok ak d:=yN (List.forall_mem_cons.mpr ⟨ww _ _,List.forall_mem_cons.mpr ⟨ww _ _,List.forall_mem_singleton.mpr (T8 _ _)⟩⟩) d
theorem fd(a b:Int):a-a%b=a/b*b:=(Int.sub_eq_iff_eq_add).mpr (by rw[e_];exact(eA a b).symm)
theorem fu(a:0<b):c+b-1-(c+b-1)%b=-(-c/b)*b:=by
 have d:=eA (c+b-1) b;have e:-c=(b-1-(c+b-1)%b)+(-((c+b-1)/b))*b:=by rw[Int.neg_mul,e_];exact(Y [b*((c+b-1)/b),(c+b-1)%b,c,b] [] ⟨[1],[],[.e (.p .a .b) (.s (.p .c .d) .u)],.e (.g .c) (.p (.s (.s .d .u) .b) (.g .a))⟩) d
 have f:-c/b=-((c+b-1)/b):=by rw[e,eo _ _ (cA a),gw (Int.sub_nonneg.mpr (bZ (bq (c+b-1) a))) (by exact(Y [(c+b-1)%b,b] [] ⟨[1],[],[.l .o .a],.t (.s (.s .b .u) .a) .b⟩) (bz (c+b-1) (cA a))),ef]
 rw[f,Int.neg_neg,e_];exact Int.sub_eq_iff_eq_add.mpr d.symm
noncomputable def oJ(a b c:Int):Nat:=(if 0<b then(a+b-1)/c-a/c+1 else 0).toNat
section
variable{h a i:Int}(d:no h a i){b c:Int}(f:0<=b)(e:b<3*a)(g:c<2*a)
include d f e
theorem dq:0<=b/a/\b/a<3:=⟨cV f (bj d.c),kA d.c e⟩
theorem dn:0<=-(-b/a)/\-(-b/a)<10000000:=by have c:=d.c;have g:-b/a<=0:=Int.ediv_le_of_le_mul c (by rw[jT];exact Int.neg_nonpos_of_nonneg f);have h:-4<=-b/a:=Int.le_ediv_of_mul_le c ((Y [a,b] [] ⟨[1,2],[],[.t .o .a,.t .b (.m 3 .a)],.l (.m (-4) .a) (.g .b)⟩) c e);exact⟨Int.neg_nonneg_of_nonpos g,bt (Int.neg_le_neg h) (by decide)⟩
include g
theorem lE(f:0<c):0<=(b+c-1)/a-b/a/\(b+c-1)/a<10:=by have h:=d.c;exact⟨Int.sub_nonneg.mpr (Int.ediv_le_ediv h ((Y [c,b] [] ⟨[1,2],[],[.t .o .a],.l .b (.s (.p .b .a) .u)⟩) f):b/a<=(b+c-1)/a),(kA h ((Y [a,b,c] [] ⟨[2,3,1],[],[.t .o .a,.t .b (.m 3 .a),.t .c (.m 2 .a)],.t (.s (.p .b .c) .u) (.m 10 .a)⟩) h e g):(b+c-1)/a<10)⟩
theorem HT(h:0<c):(oJ b c a:Int)=(b+c-1)/a-b/a+1/\oJ b c a<=11:=by
 have i:=lE d f e g h;have j:(oJ b c a:Int)=(b+c-1)/a-b/a+1:=by unfold oJ;refine(if_pos h)▸?_;exact eR (bx i.1 (Int.le_add_of_nonneg_right (by decide)))
 exact⟨j,(Y [(b+c-1)/a,b/a] [oJ b c a] ⟨[3,1,2],[],[.e (.n .a) (.p (.s .a .b) .u),.l .o .b,.t .a (.k 10)],.L .a (.k 11)⟩) j (dq d f e).1 i.2⟩
theorem v1(h:0<c):qr [.a (b-b%a),.a (b+c),.a a]=Z ((rg (b/a*a) a (oJ b c a)).map .a):=by have i:=d.c;have j:=d.d;refine lA (HT d f e g h) λk l=>?_;have m:b/a*a<=b:=Int.ediv_mul_le b (cA i);rw[fd];refine HQ _ _ _ (oJ b c a) (HR ((Y [b/a*a,b,a] [] ⟨[1,2,3],[],[.l .a .b,.l .o .a,.t .b (.m 3 .c),.l .c (.k 4096)],.A (.t (.k (-100000)) .a) (.t .a (.k 100000))⟩) m (cC (dq d f e).1 (bj i):0<=b/a*a) e j) ((Y [b,c,a] [] ⟨[1,2,3],[],[.l .o .a,.t .o .b,.t .a (.m 3 .c),.t .b (.m 2 .c),.l .c (.k 4096)],.A (.t (.k (-100000)) (.p .a .b)) (.t (.p .a .b) (.k 100000))⟩) f h e g j) ⟨i,bt j (by decide)⟩) ?_ (ao l (by decide)) i (bt j (by decide));refine ah (if_pos i) ?_;refine ah (if_pos (bt m (ge b h))) ?_;refine ah ?_ k.symm;rw[(by rw[Int.neg_mul];exact Y [b,c,b/a*a] [] ⟨[],[],[],.e (.s (.s (.p .a .b) .c) .u) (.p (.s (.p .a .b) .u) (.g .c))⟩:b+c-b/a*a-1=(b+c-1)+-(b/a)*a),eo _ _ (cA i)];rfl
variable(j:Q)(k:Nat)
theorem X1(l:Nat)(m:Ro)(i:0<c)(j:kZ 58 m=Z (.a (.a a)))(k:kZ 99 m=Z (.a (.a b)))(n:kZ 92 m=Z (.a (.a c)))(o):(kX lj (l+30)).ev m (.lc (.k .Mult (.b 0) (.b 58)) (dp 0) 1 [.k .FloorDiv (.b 99) (.b 58),.k .Add (.k .FloorDiv (.k .Sub (.k .Add (.b 99) (.b 92)) (.f (.a 1))) (.b 58)) (.f (.a 1))] []) o=.ok (.c ((rg (b/a*a) a (oJ b c a)).map .a)) o:=by
 have p:=lE d f e g i;have q:=dq d f e;refine lA (HT d f e g i) λr s=>?_;have t:qr [.a (b/a),.a ((b+c-1)/a+1)]=Z ((rg (b/a) 1 (oJ b c a)).map .a):=by refine HQ _ _ _ (oJ b c a) (HR ((Y [b/a] [] ⟨[1],[],[.l .o .a,.t .a (.k 3)],.A (.t (.k (-100000)) .a) (.t .a (.k 100000))⟩) q.1 q.2) ((Y [(b+c-1)/a,b/a] [] ⟨[1,2],[],[.l .o (.s .a .b),.t .a (.k 10),.l .o .b],.A (.t (.k (-100000)) (.p .a .u)) (.t (.p .a .u) (.k 100000))⟩) p.1 p.2 q.1) (by decide)) ?_ (ao s (by decide)) (by decide) (by decide);unfold aY;refine(if_pos (Int.lt_add_one_of_le (Int.sub_nonneg.mp p.1)))▸?_;rw[Int.ediv_one,r];exact Y [(b+c-1)/a,b/a] [] ⟨[],[],[],.e (.p (.s (.s (.p .a .u) .b) .u) .u) (.p (.s .a .b) .u)⟩
 have u:lS (kX lj (l+29)) m I 1 [.k .FloorDiv (.b 99) (.b 58),.k .Add (.k .FloorDiv (.k .Sub (.k .Add (.b 99) (.b 92)) (.f (.a 1))) (.b 58)) (.f (.a 1))] o=.ok ((rg (b/a) 1 (oJ b c a)).map .a) o:=by have v:∀w:Int,lU .FloorDiv (.a w) (.a a)=Z (.a (w/a)):=λw=>if_pos (Bool.and_eq_true_iff.mpr ⟨decide_eq_true d.c,decide_eq_true (bt d.d (by decide))⟩);exact(_root_.Mine.Internal.M.lO (Qy (h:=o) (l7 (g:=l) (h:=29) (la k (la j lD)) [.d _ _ (v b)] (by kernel_rfl)) (l7 (g:=l) (h:=29) (la k (la n (la j lD))) [.d _ _ (v (b+c-1))] (by kernel_rfl)):mw (kX lj (l+29)) m [.k .FloorDiv (.b 99) (.b 58),.k .Add (.k .FloorDiv (.k .Sub (.k .Add (.b 99) (.b 92)) (.f (.a 1))) (.b 58)) (.f (.a 1))] o=.ok [.a (b/a),.a ((b+c-1)/a+1)] o)).trans (congrArg (λx=>_root_.Mine.Internal.M.c x o) t)
 refine(pL V.a (λy m=>k9 0 (.a (.a y)) m) (λ_ _=>rfl) (λy=>.a (y*a)) (rg (b/a) 1 (oJ b c a)) u (ao (bV (Uq ..)) (ao s (by decide))) λy z=>?_).trans ?_;·have A:=Ur (a:=a) (oJ b c a) (b/a) y z;exact l7 (GW.lu.k9 (la n (la k (la j lD))) (0) (LV.a (V.a y))) [.o _ _ ((oE (b:=y) (d:=a) (sm (bx q.1 A.1) ((Y [y,b/a] [oJ b c a] ⟨[1,2,3],[],[.t .a (.p .b (.n .a)),.t .b (.k 3),.L .a (.k 11)],.t .a (.k 10000000)⟩) A.2 q.2 s)) d.e))] (by kernel_rfl)
 rw[←Up,b_];rfl
end
section
variable(a:Q)(b:Nat)
theorem Uv{c d e}(f:no c d e)(g):su (kX lj (g+20)) 182 122 [.a c] ⟨St a,b⟩=.ok (.b 20) ⟨St a++[MO.b (LA c d e),MO.a 182 19],b+1+1+1+1+1+1⟩:=by refine(congrArg _ (Uj a b f g)).trans ?_;rfl
theorem Uw{c d a}(b:no c d a):lU .Pow (.a 2) (.a c)=Z (.a d):=by rw[Gu,if_pos (by exact b.h),b.p1]
noncomputable def tB:List lT:=[.l [.j 49 (.r 182 [.b 50])] [(52,.a 49 50)]]
theorem U7:lj.c 182=Z 122:=rfl
theorem Ux:oN lj ⟨52,0⟩ [(52,.a 49 50)]=Z (.a 49 50):=rfl
theorem HU(c)(a:c=3\/c=13)(d)(b:d.length<=4096)(e)(f)(g)(h:kZ 49 f=Z (.b d))(i:kZ 50 f=Z (.a (.a c))):lH (kX lj (e+29)) tB f g=.ok (k9 49 (.b (d++[.a c])) f,.a) ⟨g.σ++[MO.b [],MO.a 182 g.σ.length],g.mu+1+3⟩:=by
 have j:(kX lj (e+27)).ev f (.r 182 [.b 50]) g=.c ⟨52,0⟩ ⟨g.σ++[MO.b [],MO.a 182 g.σ.length],g.mu+1⟩:=by exact(M.lO (a:=[.a c]) (S:=g) (S':=g) ((M.lO (S:=g) (S':=g) (a:=.a c) (sJ i)).trans rfl)).trans (Ut c a (e+6) g)
 have k:lH (kX lj (e+28)) [.j 49 (.r 182 [.b 50])] f g=.ok (f,.c ⟨52,0⟩) ⟨g.σ++[MO.b [],MO.a 182 g.σ.length],g.mu+1⟩:=by rw[Gs,nF,QH,h];dsimp only;rw[Gq,j];rfl
 have l:qX f (.a 49 50) ⟨g.σ++[MO.b [],MO.a 182 g.σ.length],g.mu+1+3⟩=.ok (k9 49 (.b (d++[.a c])) f,.a) ⟨g.σ++[MO.b [],MO.a 182 g.σ.length],g.mu+1+3⟩:=by unfold qX;dsimp only;rw[h,i];exact congrFun (if_pos b) _
 unfold tB;rw[Gs,nF,Rp,nF,k];dsimp only;rw[Ux];dsimp only;rw[l];rfl
theorem m_(c)(a:0<d):lU .Mod (.a c) (.a d)=Z (.a (c%d)):=if_pos a
theorem yP(c)(a:0<d)(b:d<=4096):lU .FloorDiv (.a c) (.a d)=Z (.a (c/d)):=if_pos (Bool.and_eq_true_iff.mpr ⟨decide_eq_true a,decide_eq_true (bt b (by decide))⟩)
theorem HV(c:Int):(!(c==c))=ak:=congrArg dF (beq_self_eq_true c)
theorem HW(c d e:Int):(!(c==c&&(d==d&&(e==e&&I))))=ak:=by rw[beq_self_eq_true,beq_self_eq_true,beq_self_eq_true];rfl
theorem Uy{c d e}(f:no c d e)(g)(h)(i:kZ 47 h=Z (.a (.a c))):(kX lj (g+23)).ev h (.r 182 [.b 47]) ⟨St a,b⟩=.ok (.b 20) ⟨St a++[MO.b (LA c d e),MO.a 182 19],b+1+1+1+1+1+1⟩:=by exact(_root_.Mine.Internal.M.lO (a:=[.a c]) (S:=⟨St a,b⟩) (S':=⟨St a,b⟩) ((_root_.Mine.Internal.M.lO (S:=⟨St a,b⟩) (S':=⟨St a,b⟩) (a:=.a c) (sJ i)).trans rfl)).trans (Uv a b f (g+2))
theorem HY(c)(d)(e)(a:kZ 49 d=Z (.b [])):∃f,mT (kX lj (c+29)) (.inl 50) tB [.a 3,.a 13] d e=.ok (f,.a) ⟨(e.σ++[MO.b [],MO.a 182 e.σ.length])++[MO.b [],MO.a 182 (e.σ++[MO.b [],MO.a 182 e.σ.length]).length],e.mu+1+3+1+3⟩/\kZ 49 f=Z (.b [.a 3,.a 13]):=by refine lQ (k9 49 (.b [.a 3,.a 13]) (k9 50 (.a (.a 13)) (k9 49 (.b [.a 3]) (k9 50 (.a (.a 3)) d)))) ?_ (GW.nW _ _ _);exact Bh (HU 3 (.inl rfl) [] (by decide) c (k9 50 (.a (.a 3)) d) e ((GW.nE _ _ rfl).trans a) (GW.nW _ _ _)) (Bh (HU 13 (.inr rfl) [.a 3] (by decide) c _ _ ((GW.nE _ _ rfl).trans (GW.nW _ _ _)) (GW.nW _ _ _)) rfl)
theorem Uz(c:Int)(d:no (4+c%9) e (e/4)):∃a0,∀f,Rt (f+60) 912 [.a c] ⟨St a,b⟩ (.h I) a0:=by
 have g:=d.c;have h:0<3*e:=Int.mul_pos (by decide) g;have i:0<2*e:=Int.mul_pos (by decide) g;have j:=bz (c/9) (cA h);have k:=bq (c/9) h;have l:=bq (c/27) i;have m:=(⟨bz c (cA d.a),bq c d.a⟩:0<=c%(e/4)/\c%(e/4)<e/4);have n:=(⟨bz (c/9%(3*e)) (cA d.a),bq (c/9%(3*e)) d.a⟩:0<=c/9%(3*e)%(e/4)/\c/9%(3*e)%(e/4)<e/4);have o:=(⟨bz c (cA g),bq c g⟩:0<=c%e/\c%e<e);have p:=d.i m;have q:=dq d j k;have r:=dn d j k;have s:=λf=>Uy a b d f [(24,.a (.a c)),(47,.a (.a (4+c%9)))] rfl;have t:=Uw d;have u:=oE (b:=3) (by decide) d.e;have v:=oE (b:=2) (by decide) d.e;have w:=oE d.e d.f;have x:=oE d.j d.f;have y:=oE (sm q.1 (bH q.2 (by decide))) d.e;have z:=oE (sm r.1 r.2) d.e;have A:=oE (sm m.1 (bX m.2 (bx d.b.2 (by decide)))) d.f;have B:=oE (sm (ei p.1 n.1) (bt (Int.add_le_add p.2 (bx (bj n.2) d.b.2)) (by decide))) d.e;have C:=λf=>(BL a (b+1+1+1+1+1+1) d _ j f).trans (congrArg (λE=>R.ok (V.a E) _) (fd (c/9%(3*e)) e));have F:=λf=>(Uk a (b+1+1+1+1+1+1) d _ j f).trans (congrArg (λE=>R.ok (V.a E) _) (fu g));have G:=λf=>Ul a (b+1+1+1+1+1+1) d _ j f;have H:=λf=>Um a (b+1+1+1+1+1+1) d _ _ _ m n o f;have J:=λf=>Un a (b+1+1+1+1+1+1) d _ _ _ m n o f;have L:=yO [e,e/4,e*(e/4),e*(e/4)*(e/4)] ⟨St a++[MO.b (LA (4+c%9) e (e/4)),MO.a 182 19],b+1+1+1+1+1+1⟩;have M:=Uu (c/9%(3*e)/e*e) (-(-(c/9%(3*e))/e)*e) (c/9%(3*e)%e==0) ⟨St a++[MO.b (LA (4+c%9) e (e/4)),MO.a 182 19],b+1+1+1+1+1+1⟩;have N:∀O,mz .Eq (.c [.a 3,.a 13]) (.c [.a 3,.a 13]) O=.ok I O:=λO=>rfl;refine⟨⟨((St a++[MO.b (LA (4+c%9) e (e/4)),MO.a 182 19])++[MO.b [],MO.a 182 21])++[MO.b [],MO.a 182 23],b+1+1+1+1+1+1+1+3+1+3⟩,λf=>?_⟩;by_cases P:0<c/27%(2*e);·have a3:=λO=>X1 d j k l (f+27) [(24,.a (.a c)),(47,.a (.a (4+c%9))),(66,.a (.b 20)),(58,.a (.a e)),(98,.a (.a (e/4))),(99,.a (.a (c/9%(3*e)))),(92,.a (.a (c/27%(2*e))))] P rfl rfl rfl O;have Q:=yO (rg (c/9%(3*e)/e*e) e (oJ (c/9%(3*e)) (c/27%(2*e)) e)) ⟨St a++[MO.b (LA (4+c%9) e (e/4)),MO.a 182 19],b+1+1+1+1+1+1⟩;have S:=HP a (b+1+1+1+1+1+1) d _ _ j _ (λ_=>v1 d j k l P) (λT=>absurd (ge _ P) T);obtain⟨a4,U,W⟩:=HY (f+29) [(24,.a (.a c)),(47,.a (.a (4+c%9))),(66,.a (.b 20)),(58,.a (.a e)),(98,.a (.a (e/4))),(99,.a (.a (c/9%(3*e)))),(92,.a (.a (c/27%(2*e)))),(40,.a (.c ((rg (c/9%(3*e)/e*e) e (oJ (c/9%(3*e)) (c/27%(2*e)) e)).map .a))),(48,.a (.a ((c%(e/4)*(e/4)+c/9%(3*e)%(e/4))*e+c%e))),(49,.b [])] ⟨St a++[MO.b (LA (4+c%9) e (e/4)),MO.a 182 19],b+1+1+1+1+1+1⟩ rfl;have X:=qa lj (e:=0) (f:=[.e [.f (.a 3),.f (.a 13)]]) rfl U;exact lq [.v _ _ (s (f+34)),.o _ _ t,.o _ _ u,.d _ _ (m_ (c/9) h),.o _ _ v,.d _ _ (m_ (c/27) i),.o _ _ w,.o _ _ w,.o _ _ x,.t _ _ L,.n,.v _ _ (C (f+45)),.v _ _ (F (f+35)),.v _ _ (G (f+45)),.d _ _ (yP (c/9%(3*e)) g d.d),.o _ _ y,.d _ _ (yP (-(c/9%(3*e))) g d.d),.o _ _ z,.d _ _ (m_ (c/9%(3*e)) g),.t _ _ M,.n,.b _ _ (mG P),.v _ _ (a3 ⟨St a++[MO.b (LA (4+c%9) e (e/4)),MO.a 182 19],b+1+1+1+1+1+1⟩),.v _ _ (S (f+26)),.t _ _ Q,.n,.d _ _ (m_ c d.a),.o _ _ A,.d _ _ (m_ (c/9%(3*e)) d.a),.o _ _ B,.d _ _ (m_ c g),.d _ _ (m_ c d.a),.d _ _ (m_ (c/9%(3*e)) d.a),.d _ _ (m_ c g),.v _ _ (H (f+35)),.b _ _ (HV ((c%(e/4)*(e/4)+c/9%(3*e)%(e/4))*e+c%e)),.v _ _ (J (f+35)),.d _ _ (m_ c d.a),.d _ _ (m_ (c/9%(3*e)) d.a),.d _ _ (m_ c g),.b _ _ (HW (c%(e/4)) (c/9%(3*e)%(e/4)) (c%e)),.n,.s _ _ _ _ _ X (la W lD),.t _ _ (N ⟨St a++[MO.b (LA (4+c%9) e (e/4)),MO.a 182 19]++[MO.b [],MO.a 182 21]++[MO.b [],MO.a 182 23],b+1+1+1+1+1+1+1+3+1+3⟩)] (by kernel_rfl)
 ·have Q:=yO [] ⟨St a++[MO.b (LA (4+c%9) e (e/4)),MO.a 182 19],b+1+1+1+1+1+1⟩;have T:¬(c/9%(3*e)<c/9%(3*e)+c/27%(2*e)):=(Y [c/9%(3*e),c/27%(2*e)] [] ⟨[2],[],[.N (.t .o .b)],.N (.t .a (.p .a .b))⟩) P;have S:=HP a (b+1+1+1+1+1+1) d (c/9%(3*e)) (c/9%(3*e)+c/27%(2*e)) j [] (λa5=>absurd a5 T) (λ_=>rfl);obtain⟨a4,U,W⟩:=HY (f+29) [(24,.a (.a c)),(47,.a (.a (4+c%9))),(66,.a (.b 20)),(58,.a (.a e)),(98,.a (.a (e/4))),(99,.a (.a (c/9%(3*e)))),(92,.a (.a (c/27%(2*e)))),(40,.a (.c [])),(48,.a (.a ((c%(e/4)*(e/4)+c/9%(3*e)%(e/4))*e+c%e))),(49,.b [])] ⟨St a++[MO.b (LA (4+c%9) e (e/4)),MO.a 182 19],b+1+1+1+1+1+1⟩ rfl;have X:=qa lj (e:=0) (f:=[.e [.f (.a 3),.f (.a 13)]]) rfl U;exact lq [.v _ _ (s (f+34)),.o _ _ t,.o _ _ u,.d _ _ (m_ (c/9) h),.o _ _ v,.d _ _ (m_ (c/27) i),.o _ _ w,.o _ _ w,.o _ _ x,.t _ _ L,.n,.v _ _ (C (f+45)),.v _ _ (F (f+35)),.v _ _ (G (f+45)),.d _ _ (yP (c/9%(3*e)) g d.d),.o _ _ y,.d _ _ (yP (-(c/9%(3*e))) g d.d),.o _ _ z,.d _ _ (m_ (c/9%(3*e)) g),.t _ _ M,.n,.b _ _ (rh P),.v _ _ (S (f+26)),.t _ _ Q,.n,.d _ _ (m_ c d.a),.o _ _ A,.d _ _ (m_ (c/9%(3*e)) d.a),.o _ _ B,.d _ _ (m_ c g),.d _ _ (m_ c d.a),.d _ _ (m_ (c/9%(3*e)) d.a),.d _ _ (m_ c g),.v _ _ (H (f+35)),.b _ _ (HV ((c%(e/4)*(e/4)+c/9%(3*e)%(e/4))*e+c%e)),.v _ _ (J (f+35)),.d _ _ (m_ c d.a),.d _ _ (m_ (c/9%(3*e)) d.a),.d _ _ (m_ c g),.b _ _ (HW (c%(e/4)) (c/9%(3*e)%(e/4)) (c%e)),.n,.s _ _ _ _ _ X (la W lD),.t _ _ (N ⟨St a++[MO.b (LA (4+c%9) e (e/4)),MO.a 182 19]++[MO.b [],MO.a 182 21]++[MO.b [],MO.a 182 23],b+1+1+1+1+1+1+1+3+1+3⟩)] (by kernel_rfl)
theorem UA(c):∃d,∀e,Rt (e+60) 912 [.a c] ⟨St a,b⟩ (.h I) d:=by have f:=Ui (c%9).toNat (Y [c] [] ⟨[1,3,4],[.m .a 9,.t .c],[],.L .a (.k 8)⟩);rw[eR (bz c (by decide))]at f;rw[(by rw[f.pm,Int.mul_ediv_cancel_left _ (by decide)]:((2^(2+(c%9).toNat):Nat):Int)=((2^(4+(c%9).toNat):Nat):Int)/4)]at f;exact Uz a b c f
end
end
noncomputable def nS(a:List Int):List Int:=((a.take 12).map λb=>(b.natAbs:Int)%1000000000000)++(if a.isEmpty then[0,7]else[])
theorem UB(a):∀b∈nS a,0<=b/\b<1000000000000:=by
 intro b c;refine aB (List.mem_append.mp c) (λd=>?_) (λd=>?_);·refine ll (List.mem_map.mp d) λe _ f=>?_;induction f;exact Y [] [e.natAbs] ⟨[1,3,2],[.m (.n .a) 1000000000000],[],.A (.l .o .b) (.t .b (.k 1000000000000))⟩
 ·split at d;·simp only[cy,bY,or_false]at d;exact(Y [b] [] ⟨[1],[],[.O (.e .a .o) (.e .a (.k 7))],.A (.l .o .a) (.t .a (.k 1000000000000))⟩) d
  ·cases d
theorem UC(a):(nS a).length<=12:=by unfold nS;rw[aW,ay,f_];induction a with|nil=>decide|cons b c=>exact jl 12 (c.length+1)
theorem UD(a):1<=(nS a).length:=by unfold nS;rw[aW,ay,f_];induction a with|nil=>decide|cons b c=>exact Nat.le_min.mpr ⟨by decide,cM (bv _)⟩
theorem UE:∀a:List Int,nx (a.map V.a)=Z a:=by intro b;induction b with|nil=>exact rfl|cons c a d=>show(nx (a.map V.a)).map (c::·)=_;refine d▸?_;rfl
theorem UF(a:List Int)(b):l6 .sum [.c (a.map V.a)] b=.ok (.a a.sum) b:=by show M.bind (M.c (nx (a.map V.a))) (λc=>M.pure (V.a c.sum)) b=_;rw[UE];rfl
theorem UG(a)(b:a.length<=63)(c)(d:kZ 51 c=Z (.a (.c (a.map .a))))(e)(f):(kX lj (f+20)).ev c (.k .Add (.lc (.k .Mod (.l6 .abs [.b 24]) (.k .Pow (.f (.a 10)) (.f (.a 12)))) (dp 24) 0 [.a (.b 51) D (Z (.f (.a 12)))] []) (.k .Mult (.c [.f (.a 0),.f (.a 7)]) (.l6 .a [.n (.b 51) [.Eq] [.c []]]))) e=.ok (.c ((nS a).map .a)) e:=by
 have g:lS (kX lj (f+18)) c I 0 [.a (.b 51) D (Z (.f (.a 12)))] e=.ok ((a.take 12).map .a) e:=by
  have h:∀i,kZ 51 c=Z (.a i)->(kX lj (f+18)).ev c (.a (.b 51) D (Z (.f (.a 12)))) e=(match i with|.c j=>M.c ((n7 D (Z (.a 12)) j).map .c)|.f k=>M.c ((n7 D (Z (.a 12)) k).map .f)|_=>M.b:M V) e:=by intro i l;exact(M.lO (sJ l)).trans rfl
  have m:n7 D (Z (.a 12)) (a.map V.a)=Z ((a.take 12).map .a):=by show wU (a.map V.a) 12=_;refine ah (if_pos (by rw[ay,aJ,decide_eq_true_eq,decide_eq_true_eq];exact n0 (by decide) (ao b (by decide)))) ?_;refine List.map_take▸?_;rfl
  rw[QL,nF,h _ d];dsimp only;refine m▸?_;rfl
 have n:(kX lj (f+19)).ev c (.lc (.k .Mod (.l6 .abs [.b 24]) (.k .Pow (.f (.a 10)) (.f (.a 12)))) (dp 24) 0 [.a (.b 51) D (Z (.f (.a 12)))] []) e=.ok (.c ((a.take 12).map λo=>.a ((o.natAbs:Int)%1000000000000))) e:=by refine pL V.a (λo c=>k9 24 (.a (.a o)) c) (λ_ _=>rfl) (λo=>.a ((o.natAbs:Int)%1000000000000)) (a.take 12) g (ao (List.length_take_le ..) (by decide)) λo p=>?_;exact l7 (GW.lu.k9 (la d lD) (24) (LV.a (V.a o))) [.o _ _ ((by kernel_rfl:lU .Pow (.a 10) (.a 12)=Z (.a 1000000000000)))] (by kernel_rfl)
 have q:lU .Mult (.c [.a 0,.a 7]) (.a (if a.isEmpty then 1 else 0))=Z (.c ((if a.isEmpty then[0,7]else[]).map .a)):=by cases a.isEmpty<;>rfl
 have r:lU .Add (.c ((a.take 12).map λo=>.a ((o.natAbs:Int)%1000000000000))) (.c ((if a.isEmpty then[0,7]else[]).map .a))=Z (.c ((nS a).map .a)):=by
  have s:(nS a).map V.a=((a.take 12).map λo=>V.a ((o.natAbs:Int)%1000000000000))++(if a.isEmpty then[0,7]else[]).map V.a:=by refine ah dO ?_;refine List.map_map.symm▸?_;rfl
  refine s▸?_;show(if _ then _ else _)=_;rw[if_pos];simp only[ay,f_];have:(if a.isEmpty then[0,(7:Int)]else[]).length<=2:=by cases a.isEmpty<;>decide
  exact ao (fw (jl _ _) this) (by decide)
 exact Bc (c:=f+19) n (Bc (c:=f+18) (l7 (g:=f) (h:=18) lD [] (by kernel_rfl):_=.ok (.c [.a 0,.a 7]) e) (Gf (c:=f+17) (Qx (c:=f+16) (h:=e) (l7 (g:=f) (h:=16) (la d lD) [] (by kernel_rfl)) (l7 (g:=f) (h:=16) lD [] (by kernel_rfl):_=.ok (.c []) e) (HG (λt=>t) a e)) ((λu e=>rfl:∀u e,l6 .a [.h u] e=.ok (.a (if u then 1 else 0)) e) a.isEmpty e)) q) r
noncomputable def q0(a:Int):Q:={lE:=a,ws:=[],e:=1,d:=[],f:=[(512,1)],b:=[],c:=[],a:=[]}
theorem UH(a)(b:2<=a/\a<=5):l0 (q0 a) [] [] [] (λ_=>0) 10:=by refine⟨⟨b.1,b.2,by simp[q0],(Y [a] [] ⟨[1],[],[.A (.l (.k 2) .a) (.l .a (.k 5))],.l .u .a⟩) b,by simp,by simp,by simp[q0],by simp[q0],by simp,rfl,by simp⟩,⟨λc d e=>by simp[lz]at e,by simp,λc _ _ _ _=>by simp[q0,lI,lz],by simp⟩,⟨λc d e=>by simp[lz]at e,λc d e=>by simp[lz]at e,by simp,by simp,by simp⟩,⟨by simp[q0],by simp[q0]⟩⟩
structure LF(c:Int)(mk:V)(ρ:Ro):Prop where g:kZ 52 ρ=Z (.a mk)j:kZ 41 ρ=Z (.a (.b 1))d:kZ 43 ρ=Z (.a (.a c))h:kZ 42 ρ=Z (.a (.b 6))a:kZ 34 ρ=Z (.a (.b 10))k:kZ 37 ρ=Z (.a (.b 15))b:kZ 35 ρ=Z (.a (.a 512))e:kZ 27 ρ=Z (.a (.b 16))f:kZ 28 ρ=Z (.a (.b 17))i:kZ 29 ρ=Z (.a (.b 18))
theorem LF.k9{a}(b:LF c a l)(m)(n)(d:m=24\/m=26\/m=40\/m=38):LF c a (Mine.Internal.k9 m n l):=by
 have e:∀f,f≠24->f≠26->f≠40->f≠38->kZ f (Mine.Internal.k9 m n l)=kZ f l:=by intro f g h i j;rw[oi,if_neg];exact(Y [] [m,f] ⟨[1,2],[],[.O (.E .a (.k 24)) (.O (.E .a (.k 26)) (.O (.E .a (.k 40)) (.E .a (.k 38)))),.N (.E .b (.k 24)),.N (.E .b (.k 26)),.N (.E .b (.k 40)),.N (.E .b (.k 38))],.N (.E .b .a)⟩) d g h i j
 exact⟨(e _ (by decide) (by decide) (by decide) (by decide)).trans b.g,(e _ (by decide) (by decide) (by decide) (by decide)).trans b.j,(e _ (by decide) (by decide) (by decide) (by decide)).trans b.d,(e _ (by decide) (by decide) (by decide) (by decide)).trans b.h,(e _ (by decide) (by decide) (by decide) (by decide)).trans b.a,(e _ (by decide) (by decide) (by decide) (by decide)).trans b.k,(e _ (by decide) (by decide) (by decide) (by decide)).trans b.b,(e _ (by decide) (by decide) (by decide) (by decide)).trans b.e,(e _ (by decide) (by decide) (by decide) (by decide)).trans b.f,(e _ (by decide) (by decide) (by decide) (by decide)).trans b.i⟩
noncomputable def BM:List lT:=[.k (.un .Not (.l 897 [.b 34,.b 37,.b 35,.b 27,.b 28,.b 38])) [.d (.f (.h ak))] []]
theorem UI(a:l0 b b.b b.c b.a c d)(e:d<=4000)(f:b.b.length<=4096)(g)(h):∀(i:List Int)(j:Nat),(∀k∈i,0<=k/\k<16)->∃l,∀m n,LF g h n->∃o,mT (kX lj (m+120)) (.inl 38) BM (i.map .a) n ⟨St b,j⟩=.ok (o,.a) ⟨St b,l⟩/\LF g h o:=by
 intro p;induction p with|nil=>
  intro j _;exact⟨j,λm n q=>⟨n,rfl,q⟩⟩|cons k i r=>
  intro j s;refine lp (T7 a e f j (s k (aw ..))) λt u=>?_;refine lp (r t (λv w=>s v (aq _ w))) λl x=>?_;refine mf l (λm n q=>?_);have y:=q.k9 38 (.a (.a k)) (Y [] [] ⟨[],[],[],.O (.E (.k 38) (.k 24)) (.O (.E (.k 38) (.k 26)) (.O (.E (.k 38) (.k 40)) (.E (.k 38) (.k 38))))⟩);refine ll (x m _ y) λo z A=>?_;refine lQ (o) ?_ A;show(M.bind (lH (kX lj (m+120)) BM (k9 38 (.a (.a k)) n)) _ _)=_;have B:kZ 38 (k9 38 (.a (.a k)) n)=Z (.a (.a k)):=GW.nW _ _ _;generalize k9 38 (.a (.a k)) n=C at*;have E:lH (kX lj (m+120)) BM C ⟨St b,j⟩=.ok (C,.a) ⟨St b,t⟩:=by exact uT (la y.f (la y.e (la y.b (la y.k (la y.a (la B lD)))))) [.v _ _ (u (m+36)),.n] (by kernel_rfl)
  rw[nF,E];exact z
noncomputable def wy:List lT:=fb 5 (nM 917)
noncomputable def mP(a:Int):V:=mD (a%8) (a/8%17) (u1 a) (wm a) (u2 a) (a/8/87040)
theorem UJ(a:l0 b b.b b.c b.a a0 c)(d:c<=1500)(e:b.b.length+b.c.length<=15)(f:b.a.length<=60)(g)(h)(i)(j:0<=i/\i<1000000000000):∃k l m,k.lE=b.lE/\l0 k k.b k.c k.a m (c+40)/\k.b.length+k.c.length<=b.b.length+b.c.length+1/\k.a.length<=b.a.length+1/\∀n o,LF b.lE h o->kZ 24 o=Z (.a (.a i))->∃p,lH (kX lj (n+200)) wy o ⟨St b,g⟩=.ok (p,.a) ⟨St k,l⟩/\LF b.lE h p:=by
 obtain⟨q,r,s,k,l,m,t,u,v,w,x,y,z⟩:=TH a (lk d rfl) g ((Y [] [b.b.length,b.c.length] ⟨[2,1],[],[.L (.p .a .b) (.k 15)],.L .a (.k 4000)⟩) e) ((Y [] [b.b.length,b.c.length] ⟨[1,2],[],[.L (.p .a .b) (.k 15)],.L .b (.k 4000)⟩) e) (lk f rfl) i j;have A:=λn=>Uh w ((Y [] [c] ⟨[1],[],[.L .a (.k 1500)],.L (.p .a (.k 40)) (.k 4000)⟩) d) ((Y [] [b.b.length,b.c.length,k.b.length,k.c.length] ⟨[1,2,3],[],[.L (.p .a .b) (.k 15),.L (.p .c .d) (.p (.p .a .b) .u)],.L (.p .c .d) (.k 16)⟩) e x) ((Y [] [b.a.length,k.a.length] ⟨[1,2],[],[.L .a (.k 60),.L .b (.p .a .u)],.T .b (.k 64)⟩) f y) l n;rw[v]at A;obtain⟨B,C⟩:=UI w ((Y [] [c] ⟨[1],[],[.L .a (.k 1500)],.L (.p .a (.k 40)) (.k 4000)⟩) d) ((Y [] [b.b.length,b.c.length,k.b.length,k.c.length] ⟨[4,1,2,3],[],[.L (.p .a .b) (.k 15),.L (.p .c .d) (.p (.p .a .b) .u)],.L .c (.k 4096)⟩) e x) b.lE h [i/8%17%16,i%16,i/16%16] l (by intro E F;simp only[cy,bY,or_false]at F;exact(Y [E,i] [] ⟨[6,8,10,9,7,5,1,4,2,11,3],[.d .b 8,.m .c 17,.m .e 16,.m .b 16,.m .i 16],[.O (.e .a .h) (.O (.e .a .j) (.e .a (.x 10)))],.A (.l .o .a) (.t .a (.k 16))⟩) F);refine BZ k B m v w x y (λn o G H=>?_);have J:=λn L=>SD i j n L;replace J:∀n L,Rt (n+20) 845 [.a i] L (mP i) L:=J;have N:=G.k9 26 (.a (mP i)) (Y [] [] ⟨[],[],[],.O (.E (.k 26) (.k 24)) (.O (.E (.k 26) (.k 26)) (.O (.E (.k 26) (.k 40)) (.E (.k 26) (.k 38))))⟩);have O:=N.k9 40 (.a q) (Y [] [] ⟨[],[],[],.O (.E (.k 40) (.k 24)) (.O (.E (.k 40) (.k 26)) (.O (.E (.k 40) (.k 40)) (.E (.k 40) (.k 38))))⟩);have P:kZ 24 (k9 40 (.a q) (k9 26 (.a (mP i)) o))=Z (.a (.a i)):=(GW.nE _ _ rfl).trans ((GW.nE _ _ rfl).trans H);have Q:kZ 26 (k9 40 (.a q) (k9 26 (.a (mP i)) o))=Z (.a (mP i)):=(GW.nE _ _ rfl).trans (GW.nW _ _ _);have R:kZ 40 (k9 40 (.a q) (k9 26 (.a (mP i)) o))=Z (.a q):=GW.nW _ _ _;generalize S:k9 40 (.a q) (k9 26 (.a (mP i)) o)=T at*;refine ll (C (n+79) T O) λp U V=>?_;refine lQ (p) ?_ V;have W:(kX lj (n+199)).ev o (.l 845 [.b 24]) ⟨St b,g⟩=.ok (mP i) ⟨St b,g⟩:=by exact l7 (la H lD) [.v _ _ (J (n+178) ({σ:=St b,mu:=g}))] (by kernel_rfl)
 have X:(kX lj (n+199)).ev (k9 26 (.a (mP i)) o) (.l 878 [.b 26,.b 27,.b 28,.b 29,.k .Sub (.b 43) (.f (.a 1))]) ⟨St b,g⟩=.ok q ⟨St r,s⟩:=by exact l7 (la (GW.nW _ _ _:kZ 26 (k9 26 (.a (mP i)) o)=Z (.a (mP i))) (la N.d (la N.i (la N.f (la N.e lD))))) [.v _ _ (t (n+138))] (by kernel_rfl)
 have a3:(kX lj (n+197)).ev T (.l 885 [.b 34,.b 35,.b 26]) ⟨St r,s⟩=.ok q ⟨St k,l⟩:=by exact l7 (la O.b (la O.a (la Q lD))) [.v _ _ (u (n+66))] (by kernel_rfl)
 have a4:(kX lj (n+197)).ev T (.b 40) ⟨St k,l⟩=.ok q ⟨St k,l⟩:=by exact l7 (la R lD) [] (by kernel_rfl)
 have a5:(kX lj (n+198)).b T (.un .Not (.l 907 [.b 41,.b 42,.b 34,.b 35,.b 27,.b 28,.b 29,.b 43])) ⟨St k,l⟩=.ok ak ⟨St k,l⟩:=by exact oq (la O.d (la O.i (la O.f (la O.e (la O.h (la O.j (la O.b (la O.a lD)))))))) [.v _ _ (A (n+95))] (by kernel_rfl)
 have a6:(kX lj (n+199)).ev T (.e [.k .Mod (.j (.b 26) (.f (.a 1))) (.f (.a 16)),.k .Mod (.b 24) (.f (.a 16)),.k .Mod (.k .FloorDiv (.b 24) (.f (.a 16))) (.f (.a 16))]) ⟨St k,l⟩=.ok (.e ([i/8%17%16,i%16,i/16%16].map .a)) ⟨St k,l⟩:=by exact l7 (la Q (la P lD)) [] (by kernel_rfl)
 refine oV (Bd (a:=n+199) W) (oV ((Bd (a:=n+199) X).trans (S▸rfl)) (oV (Qv (a:=n+199) (Qu (c:=n+198) (Qt (c:=n+197) a3 a4 (z _)) a5)) (M.lO (Gj (a:=n+199) (Qw a6) U))))
theorem UK(a)(b):∀(c:List Int)(d:Q)(e:Nat)(f:Int->Int)(g:Nat),l0 d d.b d.c d.a f g->d.lE=b->(∀h∈c,0<=h/\h<1000000000000)->c.length+d.b.length+d.c.length<=15->c.length+d.a.length<=60->g+40*c.length<=1500->∃i j k,i.lE=b/\l0 i i.b i.c i.a k 1500/\∀l m,LF b a m->∃n,mT (kX lj (l+200)) (.inl 24) wy (c.map .a) m ⟨St d,e⟩=.ok (n,.a) ⟨St i,j⟩/\LF b a n:=by intro o;induction o with|nil=>intro d e f g p q _ _ _ r;exact sa d e f q ⟨p.a,p.d,p.c,p.e.up (by assumption)⟩ (λl m s=>⟨m,rfl,s⟩)|cons h c t=>intro d e f g p q u v w r;refine BU (UJ p ((Y [] [g,c.length] ⟨[2,1],[],[.L (.p .a (.m 40 (.p .b .u))) (.k 1500)],.L .a (.k 1500)⟩) r) ((Y [] [c.length,d.b.length,d.c.length] ⟨[1,2],[],[.L (.p (.p (.p .a .u) .b) .c) (.k 15)],.L (.p .b .c) (.k 15)⟩) v) ((Y [] [c.length,d.a.length] ⟨[1,2],[],[.L (.p (.p .a .u) .b) (.k 60)],.L .b (.k 60)⟩) w) e a h (u h (aw ..))) λx y z A B C E F=>?_;refine nZ (t x y z (g+40) B (A.trans q) (λG H=>u G (aq _ H)) ((Y [] [c.length,d.b.length,d.c.length,x.b.length,x.c.length] ⟨[1,4],[],[.L (.p (.p (.p .a .u) .b) .c) (.k 15),.L (.p .d .e) (.p (.p .b .c) .u)],.L (.p (.p .a .d) .e) (.k 15)⟩) v C) ((Y [] [c.length,d.a.length,x.a.length] ⟨[1,3],[],[.L (.p (.p .a .u) .b) (.k 60),.L .c (.p .b .u)],.L (.p .a .c) (.k 60)⟩) w E) ((Y [] [g,c.length] ⟨[1],[],[.L (.p .a (.m 40 (.p .b .u))) (.k 1500)],.L (.p (.p .a (.k 40)) (.m 40 .b)) (.k 1500)⟩) r)) λi j k J L N=>?_;refine sa i j k J L (λl m s=>?_);refine ll (F l (k9 24 (.a (.a h)) m) (q▸s.k9 24 (.a (.a h)) (Y [] [] ⟨[],[],[],.O (.E (.k 24) (.k 24)) (.O (.E (.k 24) (.k 26)) (.O (.E (.k 24) (.k 40)) (.E (.k 24) (.k 38))))⟩)) (GW.nW _ _ _)) λO P R=>?_;refine ll (N l O (q▸R)) λS T U=>?_;refine lQ (S) ?_ U;show(M.bind (lH (kX lj (l+200)) wy (k9 24 (.a (.a h)) m)) _ _)=_;rw[nF,P];exact T
noncomputable def BN:List MO:=[.b [(21,.a 1024),(22,.a 0),(23,.a 1024),(72,.b 2)],.a 607 0,.m []]
noncomputable def ro:List MO:=BN++[.b [(56,.a 4),(57,.a 2),(58,.a 16),(59,.a 4),(60,.a 64),(23,.a 256)],.a 182 3]
theorem UL(a):(kX lj 299).ev a (.r 607 [.f (.a 1024)]) ⟨[],0⟩=.ok (.b 1) ⟨BN,4⟩:=by kernel_rfl
theorem UM(a):(kX lj 299).ev a (.r 182 [.f (.a 4)]) ⟨BN,4⟩=.ok (.b 4) ⟨ro,10⟩:=by kernel_rfl
noncomputable def p8:List lT:=((nM 917).drop 2).take 3
noncomputable def tV(a b:V)(c:Int):Ro:=[(51,.a a),(52,.a b),(41,.a (.b 1)),(66,.a (.b 4)),(43,.a (.a c))]
noncomputable def tW(a b:V)(c:Int):Ro:=tV a b c++[(42,.a (.b 6)),(34,.a (.b 10)),(37,.a (.b 15)),(35,.a (.a 512)),(27,.a (.b 16)),(28,.a (.b 17)),(29,.a (.b 18))]
theorem UN(a b):lH (kX lj 301) p8 (tV a b 2) ⟨ro,10⟩=.ok (tW a b 2,.a) ⟨St (q0 2),35⟩:=by kernel_rfl
theorem UO(a b):lH (kX lj 301) p8 (tV a b 3) ⟨ro,10⟩=.ok (tW a b 3,.a) ⟨St (q0 3),35⟩:=by kernel_rfl
theorem UP(a b):lH (kX lj 301) p8 (tV a b 4) ⟨ro,10⟩=.ok (tW a b 4,.a) ⟨St (q0 4),35⟩:=by kernel_rfl
theorem UQ(a b):lH (kX lj 301) p8 (tV a b 5) ⟨ro,10⟩=.ok (tW a b 5,.a) ⟨St (q0 5),35⟩:=by kernel_rfl
theorem UR(a b)(c:2<=d/\d<=5):lH (kX lj 301) p8 (tV a b d) ⟨ro,10⟩=.ok (tW a b d,.a) ⟨St (q0 d),35⟩:=by
 have:d=2\/d=3\/d=4\/d=5:=by exact(Y [d] [] ⟨[1],[],[.A (.l (.k 2) .a) (.l .a (.k 5))],.O (.e .a (.k 2)) (.O (.e .a (.k 3)) (.O (.e .a (.k 4)) (.e .a (.k 5))))⟩) c
 refine aB this (λe=>?_) (λf=>aB f (λg=>?_) (λh=>aB h (λi=>?_) (λj=>?_)));·subst e;exact UN a b
 ·subst g;exact UO a b
 ·subst i;exact UP a b
 ·subst j;exact UQ a b
noncomputable def BP:ls:=.k .Add (.f (.a 2)) (.k .Mod (.l6 .sum [.b 52]) (.f (.a 4)))
noncomputable def HZ:ls:=.d [.n (.p (.b 42) 133 []) [.Eq] [.b 43],.l 912 [.j (.b 52) (.un .USub (.f (.a 1)))]]
noncomputable def BQ:ls:=.k .Add (.lc (.k .Mod (.l6 .abs [.b 24]) (.k .Pow (.f (.a 10)) (.f (.a 12)))) (dp 24) 0 [.a (.b 51) D (Z (.f (.a 12)))] []) (.k .Mult (.c [.f (.a 0),.f (.a 7)]) (.l6 .a [.n (.b 51) [.Eq] [.c []]]))
theorem US:(nM 917)=.f 52 BQ::.c [41,66,43] (.e [.r 607 [.f (.a 1024)],.r 182 [.f (.a 4)],BP])::(p8++[.h (dp 24) 0 [.b 52] wy,.g (.p (.b 34) 100 [.b 35]),.d HZ]):=rfl
theorem UT(a:List Int)(b:1<=a.length)(c:a.length<=4096)(d):∃e,e∈a/\mS lj (.c (a.map .a)) (.a (-1)) d=.ok (.a e) d:=by
 have f:a.length-1<a.length:=by exact wT b
 refine lQ (a[a.length-1]) (List.getElem_mem f) ?_;have g:idx (-1) (a.map V.a).length=Z (a.length-1):=by unfold idx;rw[ay,if_neg (by decide),if_pos (by simp only[aJ,decide_eq_true_eq];exact(Y [] [a.length] ⟨[1],[],[.L .u .a],.A (.A (.t (.k (-1)) .o) (.l (.g (.n .a)) (.k (-1)))) (.l (.k (-4096)) (.k (-1)))⟩) b)];exact congrArg Z ((congrArg iK (eh _ _)).trans (Int.toNat_sub a.length 1))
 show M.c ((idx (-1) (a.map V.a).length).bind λh=>(a.map V.a)[h]?) d=_;rw[g];show M.c ((a.map V.a)[a.length-1]?) d=_;rw[dt,aI f];rfl
theorem UU(a:(kX b (c+1)).ev d e f=.ok (.h I) f)(g:(kX b c).ev d h f=.ok i f)(j:(kX b c).l k [i] f=.ok l m):(kX b (c+3)).ex d (.d (.d [e,.l k [h]])) f=.ok (d,.d l) m:=by have n:mw (kX b c) d [h] f=.ok [i] f:=M.lO g;have o:(kX b (c+1)).ev d (.l k [h]) f=.ok l m:=(M.lO n).trans j;exact qJ (b:=(kX b (c+2)).ev d (.d [e,.l k [h]])) ((M.lO a).trans o)
theorem UV(a:(kX b c).ev d e f=.ok g h):(kX b (c+1)).ex d (.g e) f=.ok (d,.a) h:=qJ a
theorem y_(a:(kX b n).ev c d e=.ok f g)(h:(kX b n).ev c i g=.ok j k)(l:mS b f j k=.ok m o):(kX b (n+1)).ev c (.j d i) e=.ok m o:=(M.lO a).trans ((M.lO h).trans l)
theorem UW{a}(b:lH a c d e=.ok (f,.a) g)(h:lH a i f g=j):lH a (c++i) d e=j:=(congrFun (AB c i d) e).trans ((M.lO b).trans h)
theorem UX(a:List Int)(b:a.length<=63):∃c,c<=600/\∃d e,lH (kX lj c) (nM 917) [(51,.a (.c (a.map .a)))] ⟨[],0⟩=.ok (d,.d (.h I)) e:=by
 refine lQ 301 (by decide) ?_;rw[US];generalize f:V.c (a.map .a)=g;generalize h:V.c ((nS a).map .a)=i;have j:=UB a;have k:=UC a;obtain⟨l,m⟩:∃l,l=2+(nS a).sum%4:=⟨_,rfl⟩;have n:2<=l/\l<=5:=by exact(Y [l,(nS a).sum] [] ⟨[1,2,4],[.m .b 4],[.e .a (.p (.k 2) .d)],.A (.l (.k 2) .a) (.l .a (.k 5))⟩) m
 have o:(kX lj 301).ex [(51,.a g)] (.f 52 BQ) ⟨[],0⟩=.ok ([(51,.a g),(52,.a i)],.a) ⟨[],0⟩:=by show(kX lj (300+1)).ex _ _ _=_;have p:=UG a b [(51,.a g)] (by rw[f];rfl) ⟨[],0⟩ 280;rw[h]at p;have q:(kX lj 300).ev [(51,.a g)] BQ ⟨[],0⟩=.ok i ⟨[],0⟩:=p;exact qJ q
 have r:(kX lj 301).ex [(51,.a g),(52,.a i)] (.c [41,66,43] (.e [.r 607 [.f (.a 1024)],.r 182 [.f (.a 4)],BP])) ⟨[],0⟩=.ok (tV g i l,.a) ⟨ro,10⟩:=by
  show(kX lj (299+1+1)).ex _ _ _=_;have s:(kX lj 299).ev [(51,.a g),(52,.a i)] BP ⟨ro,10⟩=.ok (.a l) ⟨ro,10⟩:=by show(kX lj (290+9)).ev _ _ _=_;rw[m];exact l7 m8 [.v _ _ ((λt=>UF (nS a) t) ({σ:=ro,mu:=10}))] (by kernel_rfl)
  rw[QG,Gq,QE,nF,xX,nF,UL];dsimp only;rw[nF,xX,nF,UM];dsimp only;rw[nF,xX,nF,s];rfl
 refine nZ (UK i l (nS a) (q0 l) 35 _ 10 (UH l n) rfl j (by show _+0+0<=15;exact(Y [] [(nS a).length] ⟨[1],[],[.L .a (.k 12)],.L (.p (.p .a .o) .o) (.k 15)⟩) k) (by show _+0<=60;exact(Y [] [(nS a).length] ⟨[1],[],[.L .a (.k 12)],.L (.p .a .o) (.k 60)⟩) k) ((Y [] [(nS a).length] ⟨[1],[],[.L .a (.k 12)],.L (.p (.k 10) (.m 40 .a)) (.k 1500)⟩) k)) λu v a0 w x y=>?_;have z:LF l i (tW g i l):=⟨rfl,rfl,rfl,rfl,rfl,rfl,rfl,rfl,rfl,rfl⟩;refine ll (y 100 _ z) λA B C=>?_;have E:(kX lj 301).ex (tW g i l) (.h (dp 24) 0 [.b 52] wy) ⟨St (q0 l),35⟩=.ok (A,.a) ⟨St u,v⟩:=by exact Gj (j:=lj) (a:=300) (f:=⟨St (q0 l),35⟩) ((M.lO (sJ (d:=lj) (e:=299) (b:=⟨St (q0 l),35⟩) z.g)).trans (by rw[←h];rfl:sq i ⟨St (q0 l),35⟩=.ok ((nS a).map .a) ⟨St (q0 l),35⟩)) B
 refine lP (SC x (by decide) v) λF G H J L=>?_;refine ll (UT (nS a) (UD a) (lk k rfl) ⟨St F,G⟩) λN a3 O=>?_;rw[h]at O;obtain⟨P,Q⟩:=UA F G N;have R:(F.lE-F.e+F.d.length==l)=I:=beq_iff_eq.mpr ((Y [l,(nS a).sum,u.lE,F.lE,F.e] [F.d.length] ⟨[6,5,2,4,8,1,3,7],[.m .b 4],[.e .a (.p (.k 2) .h),.e .c .a,.e (.p (.s .d .e) (.n .a)) .c],.e (.p (.s .d .e) (.n .a)) .a⟩) m w L);have S:=λc=>yg c F G (lk J rfl);have T:(kX lj 301).ex A (.g (.p (.b 34) 100 [.b 35])) ⟨St u,v⟩=.ok (A,.a) ⟨St F,G⟩:=UV (c:=300) (g:=.g) (l7 (g:=150) (h:=150) (la C.a (la C.b lD)) [.v _ _ (H 189)] (by kernel_rfl));have U:(kX lj 299).ev A (.n (.p (.b 42) 133 []) [.Eq] [.b 43]) ⟨St F,G⟩=.ok (.h (F.lE-F.e+F.d.length==l)) ⟨St F,G⟩:=l7 (g:=150) (h:=149) (la C.h (la C.d lD)) [.v _ _ (S 287)] (by kernel_rfl);rw[R]at U;have W:(kX lj 297).ev A (.b 52) ⟨St F,G⟩=.ok i ⟨St F,G⟩:=l7 (g:=150) (h:=147) (la C.g lD) [] (by kernel_rfl);have X:(kX lj 301).ex A (.d HZ) ⟨St F,G⟩=.ok (A,.d (.h I)) P:=UU (c:=298) U (y_ (n:=297) W (l7 (g:=150) (h:=147) lD [] (by kernel_rfl)) O) (Q 238);refine tZ (A) P ?_;exact oV o (oV r (UW (UR g i n) (oV E (oV T (M.lO X)))))
structure BR(K:ew)(P:Params):Prop where
 ca:(tE.map λp=>Fm TT K p.1)=tE.map λp=>Z (p.2.a,p.2.c)fb:(tE.all λp=>Fo K p.1 p.2.b)=I
 a:(Ff TT K&&(Fh TT K&&(gtB TT K&&(Fj TT K&&(Fq TT K&&(Ft TT K&&(Fu TT K&&(subB TT K&&Fi K))))))))=I
 b:(xN K 52&&(xP K 52 36&&(xN K 83&&(xP K 83 36&&(xN K 103&&(xP K 103 100&&(FC K 36&&(FD K 100 39&&eF K (.ref 36)))))))))=I
 c:jS K (.type "ValueError") (.type "type") "__init__"=Z (.val (.builtin "ValueError.__init__"))e:jS K (.ref 39) (.type "type") "__init__"=Z (.val (.ref 36))f:v8 K 36=Z AK
 tb:v8 K 100=Z AM
 d:K.lookup 106=Z {cls:=.type "dict",data:=.dict #[⟨cw P "fetch",.str "fetch" 368,.int 12 315⟩,⟨cw P "load",.str "load" 370,.int 13 317⟩,⟨cw P "store",.str "store" 372,.int 15 319⟩] 3}
theorem UY:PC TT=I:=by kernel_rfl
theorem UZ:AQ TT.d=I:=by decide+kernel
theorem U0(a)(b:BR a.K a.w.params):vM a 106 TT.o:=λc d=>by
 refine lQ _ ⟨_,_,_,(d 106 _ b.d),⟨rfl,rfl,rfl⟩,rfl,λe f=>?_,λg=>rfl⟩ (λh i j=>?_)
 ·have k:e∈[(⟨cw a.w.params "fetch",.str "fetch" 368,.int 12 315⟩:c7),⟨cw a.w.params "load",.str "load" 370,.int 13 317⟩,⟨cw a.w.params "store",.str "store" 372,.int 15 319⟩]:=by simpa using f
  simp only[cy,bY,or_false]at k;rcases k with rfl|rfl|rfl;·exact lQ ("fetch") (by kernel_rfl) rfl
  ·exact lQ ("load") (by kernel_rfl) rfl
  ·exact lQ ("store") (by kernel_rfl) rfl
 ·have l:=j;refine ll (Option.map_eq_some_iff.mp l) λm n o=>?_;refine o▸?_;have p:m∈[(([102,101,116,99,104]:List Nat),(12:Int)),([108,111,97,100],13),([115,116,111,114,101],15)]:=(fG n);simp only[cy,bY,or_false]at p;have q:m.1=h:=by simpa using(i5 n)
  rcases p with rfl|rfl|rfl;·subst q;exact⟨315,by kernel_rfl⟩
  ·subst q;exact⟨317,by kernel_rfl⟩
  ·subst q;exact mf 319 (by kernel_rfl)
theorem U1(a)(b:BR a.K a.w.params)(c:a.nm=na TT.d):xL a lj:=by
 refine lC b.a λd e=>lC e λf e=>lC e λg e=>lC e λh e=>lC e λi e=>lC e λj e=>lC e λk e=>lC e λl m=>?_;refine lC b.b λn e=>lC e λo e=>lC e λp e=>lC e λq e=>lC e λr e=>lC e λs e=>lC e λt e=>lC e λu v=>?_;have w:∀x y,nh a (TT.cc x y):=Fk c d f g m h;have z:∀A B,lj.fn A=Z B->(A,B)∈tE:=λA B e=>rc (show tE.lookup A=Z B from e);have C:=at_of (b:=TT) c j;have E:∀w F,lj.a w=Z F->(w=52/\F=.a)\/(w=83/\F=.a)\/(w=103/\F=.b):=λw F e=>by have:=rc (show TT.a.lookup w=Z F from e);have:(w,F)∈[((52:Nat),XK.a),(83,.a),(103,.b)]:=this;simp only[cy,bY,or_false,Prod.mk.injEq]at this;exact this
 have G:uL a 36:=PJ t b.f b.c;refine⟨⟨λw H e=>(C w H e).1,λw H e=>(C w H e).2,λJ L e=>?_,lC UY λM e=>lC e λN e=>lC e λO e=>lC e λP Q=>⟨c▸aG M,c▸aG N,c▸aG O,c▸aG P,c▸aG Q⟩,PD c i,λA B e=>?_⟩,PF k,λA B e=>?_,λw F e=>?_,PG l,λw F e=>?_⟩
 ·by_cases R:(J==106)=I;·exact aa ((if_pos R).symm.trans e)▸aG R▸U0 a b
  ·exact nn ((if_neg R).symm.trans e)
 ·exact List.all_eq_true.mp d _ (z A B e)
 ·exact PB w (List.map_inj_left.mp b.ca _ (z A B e)) (List.all_eq_true.mp b.fb _ (z A B e))
 ·rcases E w F e with⟨rfl,rfl⟩|⟨rfl,rfl⟩|⟨rfl,rfl⟩;·obtain⟨S,T⟩:=AT (a:=a) (c:=52) (d:=36) o;exact u6 36 36 S T G (λ_=>rfl) (λU=>by cases U)
  ·obtain⟨S,T⟩:=AT (a:=a) (c:=83) (d:=36) q;exact u6 36 36 S T G (λ_=>rfl) (λU=>by cases U)
  ·obtain⟨S,T⟩:=AT (a:=a) (c:=103) (d:=100) s;exact u6 100 36 S T G (λU=>(by cases U)) (λ_=>(PK u b.tb b.e v:v3 a 100 36))
 ·rcases E w F e with⟨rfl,_⟩|⟨rfl,_⟩|⟨rfl,_⟩;·exact AS n
  ·exact AS p
  ·exact AS r
noncomputable def LV.ur(a:LV):Prop:=by cases a with|a _=>exact True|b _=>exact False
theorem H0{a:Prop}(b:LV.b c=LV.a d):a:=((congrArg LV.ur b).mpr trivial).elim
noncomputable def U2(a:eT)(w:iF)(B:dk)(mg mb:aX->Option ap){K:ew}(X:K.In B)(hg:B.Ns b7 mg)(hb:B.Ns eM mb)(b:B.NoLimit)(boot:∀c:aX,c≠"__name__"->mb c=fK c):Gd:={a:=a,w,B,nm:=na TT.d,inj:=Pt UZ,K,X,mg,mb,hg,hb,b:=b,boot}
theorem BS{a:Type}{b c:a}(d:kZ e [(f,b)]=Z c):e=f/\c=b:=by have d:(bif f==e then Z b else D)=Z c:=d;cases g:f==e with|true=>rw[g]at d;exact⟨(aG g).symm,(aa d).symm⟩|false=>rw[g]at d;exact nn d
theorem U3{a}{b}{c}{d}{e}{f g h:aX->Option ap}{i}{j:List Int}{k:Nat}{a0:Ro}{a3:MS}{l:ew}(a4:l.In m)(n:BR l a.params)(a5:m.Ns b7 g)(a6:m.Ns eM h)(a7:m.NoLimit)(a8:∀o:aX,o≠"__name__"->h o=fK o)(p:Fr m q r.heap f)(a9:f "script"=Z (.ref s))(b0:m.IsList s i)(b1:lx ⟨m.get?,[]⟩ i.toList (j.map .a))(b2:t.frames=Z [kj c d q u b])(b3:t.handled=D)(v:t.depth+k<=990)(b4:t.units+8*k<=9000)(w:d.kind=.function)(b5:∀x∈d.names,x.2=.local\/x.2=.globalImplicit)(b6:mK 60 (TT.cc d.names (oD 30 e)) e=Z (nM 917))(y:lH (kX lj k) (nM 917) [(51,.a (.c (j.map .a)))] ⟨[],0⟩=.ok (a0,.d (.h I)) a3):az (aC c1 a) t (ig e (kj c d q u b)) (λz A=>z=.ret (.bool I)/\(∃B,Fr m q A.heap B)/\A.gens=r.gens/\A.os=r.os) (λ_ _=>False) r:=by
 let C:=U2 c1 a m g h a4 a5 a6 a7 a8;refine lC n.a λc2 E=>lC E λc3 E=>lC E λc4 E=>lC E λc5 E=>lC E λc6 E=>lC E λd0 E=>lC E λd1 E=>lC E λd2 d3=>?_;have F:∀o G,d.names.lookup o=Z G->G=.local\/G=.globalImplicit:=λo G H=>b5 _ (mem_of_lookup H);have J:m.get? q=D:=ky p.above;have d4:Ev [kj c d q u b] t (kj c d q u b) (TT.cc d.names (oD 30 e)):=by refine⟨w,λo H=>H,λo H=>?_,λo d5 L H=>(nn H),rfl,rfl,b3,b2⟩;rcases H with H|H<;>(rcases F o _ H with M|M<;>cases M)
 have N:=p.ns;have O:pA ⟨m.get?,[]⟩ (kj c d q u b) r:=⟨⟨_,N⟩,λE=>(nomatch E),J,λo L H=>(nn H)⟩;have d6:Fv C (TT.cc d.names (oD 30 e)) (kj c d q u b) (λo=>nU ((TT.cc d.names (oD 30 e)).sc.lookup o)=I) q (lB []):=by
  refine⟨w,λo P H=>xM H,λo H=>?_,λo H=>?_,λo d5 L H=>(nn H),λo H=>?_,λo H E=>(nomatch E)⟩
  ·have H:nU (d.names.lookup o)=I:=H;cases M:d.names.lookup o with|none=>rw[M]at H;cases H|some G=>
    rcases F o G M with rfl|rfl;·exact .inl M
    ·rw[M]at H;exact ft H
  ·have H:d.names.lookup o=Z .cell:=H;rcases F o _ H with M|M<;>cases M
  ·have H:nU (d.names.lookup o)=I:=H;unfold m6;cases M:d.names.lookup o with|none=>rw[M]at H;cases H|some G=>
    rcases F o G M with rfl|rfl;·exact(if_pos (show(kj c d q u b).kindOf o=Z .local from M))▸(al _)
    ·rw[M]at H;exact absurd H (by decide)
 have d7:∀o P Q,(TT.cc d.names (oD 30 e)).b o=Z P->kZ P [(51,LV.a (.c (j.map .a)))]=Z (.a Q)->∃R,VI ⟨m.get?,[]⟩ R Q/\n_ ⟨m.get?,[]⟩ (kj c d q u b) r.heap o R:=λo P Q S d8=>by
  refine lA (BS d8) λe0 v=>?_;cases v;subst e0;have e1:o="script":=(xM (CC.k S):na TT.d 51=o).symm.trans (by rfl:na TT.d 51=("script":aX));subst e1;obtain⟨T,U,e2,G,e3⟩:=b0;refine lQ (.ref s) (.c (vs:=i.toList) U e2 (by refine ah e3 ?_;rw[Array.toArray_toList]) b1) (.inl ⟨?_,λE=>(nomatch E),f,N,a9⟩);unfold CC.b at S;have e4:(TT.cc d.names (oD 30 e)).sc=d.names:=rfl;replace S:=e4▸S;cases M:d.names.lookup ("script":aX)with|none=>replace S:=M▸S;cases S|some G=>
   rcases F _ G M with rfl|rfl;·exact M
   ·rw[M]at S;exact nn S
 have z:FS C [] (TT.cc d.names (oD 30 e)) (kj c d q u b) q [(51,.a (.c (j.map .a)))] ⟨m.get?,[]⟩ ⟨[],0⟩ r:=by
  refine⟨λ_=>0,⟨(⟨λ_ _ H=>H,λe5 T H=>p.keep e5 T H,rfl,List.nodup_nil,λ_ E=>(nomatch E),λ_ E=>(nomatch E),λP e6 u H=>by simp at H⟩:HS C ⟨m.get?,[]⟩ ⟨[],0⟩ r),λH e7=>?_,d7,O.cl⟩,O,λP V _ H=>?_,λP e8 V e9 _ _ H=>?_⟩;·refine(List.mem_singleton.mp e7)▸?_;refine⟨by refine(w▸?_:d.kind≠.module);decide,?_⟩;obtain⟨T,f1,f2,U,v,_⟩:=N;exact BX q T rfl U ⟨f1,f2,v⟩ J (λE=>(nomatch E))
  ·exact H0 (BS H).2
  ·exact H0 (BS H).2
 refine aK ((tx (l:=q) (Pn (U1 C n rfl:xL C lj) k k (al _)).a ((Fk rfl c2 c3 c4 d3 c5:∀f3 f4,nh C (TT.cc f3 f4)) d.names (oD 30 e)) d4 d6 rfl (al _) v b4 b6 z) (by refine y▸?_;intro f5;cases f5)) (λf6 A M=>?_) λH A M=>?_;·obtain⟨f9,g0,g1,W,X,g2,g3,g4⟩:=M;rw[y]at X;cases X;induction f6 with|ret R=>have:VI W R (.h I):=g4;refine this.r.symm▸?_;refine mY g2.g.y λg5 g6 g7=>?_;subst g7;obtain⟨⟨B,g8⟩,_⟩:=g3.b;exact oK rfl ⟨B,g8,g3.at.H.v,p.above⟩ rfl rfl|_=>exact g4.elim
 ·obtain⟨f9,o,g1,W,X,_⟩:=M;rw[y]at X;cases X
end Mine.Internal
set_option compiler.extract_closed false
local macro_rules |`(command|init_quot)=>do
 let mut i:=36 let mut r:Array Lean.Syntax:=#[]for c in"rphv0e0o0ooh0t0so0o0ooooooooo0oooo0ooooooooooot0so0ooooo0ooooooot0so0ooooo0ooo0oooooooooot0so0ooooo0ooooooot0so0ooooo0oooo0oooooooooot0sooot000so0oooo0oooo0oooooo0ooooooo0oooooo0oooooo0oooooo0oooooo0oooooo0oooooo0oooooooooooot0so0o0oooo0oooooo0oooooo0ooooot0so0oooo0ooo0ooooooo0oooooo0oooooo0oooooo0ooooooo0oooooooooooot0so0oooo0ooo0oooooo0oooooo0ooooooo0oooooo0oooooo0oooooo0oooooo0oooooo0oooooo0oooooo0ooooooo0oooooo0oooooo0oooooo0oooooo0oooooo0oooooo0oooo0oooooo0oooooooooot0oooo0ooo0oooooo0oooooo0ooooooo0oooooo0oooooo0oooooo0oooooo0oooooo0oooooo0ooooot00000so0oo0oooooo0ooooot0so0oooo0oooo0oooooo0oooooo0oooooo0oooooo0oooooo0oooooo0oooooo0oooooo0oooooo0oooooo0oooooo0oooooo0oooooo0oooooo0oooooo0oooooo0oooooo0oooooo0oooooo0oooooo0oooo0oooooo0oooooooooooot0oooo0oooo0oooooo0oooooo0oooooo0oooooo0oooooo0oooooo0oooooo0oooooo0oooooo0oooooo0oooot00000so0oooo0ooo0oooooo0oooooo0oooooo0oooooooooooot0so0oooo0ooo0oooooo0oooooo0ooooooo0ooooooo0oooooo0oooooo0oooooooooooot0sot0so0oooo0oooo0oooooo0oooooo0oooooo0oooooo0oooooo0oooooo0oooooo0oooooo0oooooo0oooooo0oooooo0oooooo0oooooo0oooooo0oooooooooooot0oooo0oooo0oooooo0oooooo0oooooo0oooooo0oooooo0oooooo0oooooo0oooooo0oooooo0oooooo0ooooot00000so0o0oooooo0oooooo0oooooo0oooooo0oooooo0oooo0oooooo0oooo0oooooo0oooo0oooo0ooot0so0o0ooot0h".toList do i:=i+1 if c !='0' then let n:Lean.Name:=if c=='r' then`PySem.Challenge.rw_nu0098_01 else if c=='p' then`PySem.Challenge.pw_nu0098_01 else .str `Mine.Internal.hd ((if c=='o' then"o"else if c=='t' then"tree"else if c=='s' then"sts"else if c=='h' then"heap"else if c=='v' then"view"else"env")++"_1_"++toString i)r:=r.push (←`(theorem$(Lean.mkIdent (.mkSimple s!"tw{n.hash}")) :True:=trivial))
 return(Lean.mkNullNode r).rewriteBottomUp (·.setInfo .none)
namespace Mine.Internal.hd
init_quot
end Mine.Internal.hd
namespace Mine.Internal
theorem vi_of_ints{W:Wd}{vs:List Value}{is:List Int}(h:IntsAre vs is) :lx W vs (is.map .a):=by induction h with|nil=>exact .c|cons=>exact .b (.a _ _) (by assumption)
theorem law_spec'{vs:List Value}{is:List Int}(_:IntsAre vs is)(h:is.length<=63) :∃n,n<=600/\∃ρ' S',lH (kX lj n) (nM 917) [(51,.a (.c (is.map .a)))] ⟨[],0⟩=.ok (ρ',.d (.h true)) S':=UX is h
set_option maxRecDepth 100000 in
set_option maxHeartbeats 8000000 in
theorem hd:PySem.Challenge.rw_nu0098_01.Holds:=by
 w_on;o_law;k_head;(case hw=>w_witness2);w_strict(
 k_go0;all_goals try k_fold
 have hT:=‹Top _ _ _ _ _ _›;have hF:=‹Fr _ _ _ _›;have hKX:=‹Frag.In _ _›;have hIs:=‹IntsAre _ _›;have hLs:=‹Heap.IsList _ _ _›;have hG:=‹_=(#[]:Array GenState)›;rename_i hcond _ _ _ _ _ _;obtain⟨n,hn,ρ',S',spec⟩:=law_spec' hIs (by omega);refine wpAny_mono (U3 (k:=n) hKX ⟨by kernel_rfl,by kernel_rfl,by kernel_rfl,by kernel_rfl,by kernel_rfl,by kernel_rfl,by kernel_rfl,by kernel_rfl,by kernel_rfl⟩ hT.g hT.b hT.nolimit hT.builtins hF rfl hLs (by simpa using vi_of_ints hIs) rfl rfl (by show 1+claimMargin+1+n<=990;unfold claimMargin;omega) (by show 4+3+8*n<=9000;omega) rfl (by decide) (by kernel_rfl) spec) (λf s' q=>?_) (λ_ _ q=>q.elim);obtain⟨rfl,⟨m',F'⟩,hg',hos⟩:=q;refine goodW_bool F' (hg'.trans hG) (raisesW_false ?_) ?_ hos;·wrow_none_raised
 ·wrow_post)
end Mine.Internal
theorem PySem.Challenge.cw_nu0098_01_holds : PySem.Challenge.rw_nu0098_01.Holds :=
Mine.Internal.hd
