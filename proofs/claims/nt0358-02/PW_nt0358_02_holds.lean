import PyProof.Rows.All
import Wide.All
import OpenK.AllK
import Wide.FinOn
import PySem.Challenge.RW_nt0358_02
open Eq renaming substr->Z
open PySem.NameKind renaming globalImplicit->uj,«local»->uk
open Nat renaming le_trans->ab,le_refl->ai,lt_of_le_of_lt->aI,le_add_right->bp,zero_le->bq,add_le_add_left->br,lt_of_lt_of_le->bv,add_le_add->cc,le_of_eq->ct,succ_le_succ->cv,le_add_left->cy,add_le_add_right->cK,le_of_lt_succ->de,zero_add->df,le_of_lt->dk,add_assoc->dn,add_comm->ds,mul_le_mul_left->dE,ne_of_lt->dL,lt_irrefl->dQ,le_succ_of_le->dS,lt_trans->ee,lt_succ_self->eK,lt_of_succ_lt->eP,le_of_not_lt->fh,lt_succ_of_le->fR,lt_of_lt_of_eq->gd,lt_of_le_of_ne->gE,le_of_succ_le->hH,le_add_right_of_le->hW,mod_lt->hZ,not_lt_zero->im,le_antisymm->io,le_succ->ip,succ_add_eq_add_succ->iv,succ_pos->iX,not_lt->i3,le_of_succ_le_succ->i4,add_lt_add_right->j1,succ_ne_zero->kc,lt_succ_of_lt->kt,add_sub_of_le->ku,mul_le_mul_right->kP,add_zero->lh,add_right_comm->lS,succ_le_of_lt->l4,one_pos->l5,casesOn->l6,lt_add_of_pos_right->mi,rec->mS,ne_of_gt->mT,lt_add_of_pos_left->m1,le_of_sub_eq_zero->nX,le_of_ble_eq_true->n9,sub_succ_lt_self->oq,sub_le->pc,lt_trichotomy->pV,succ_lt_succ->qo,not_le_of_gt->qq,min_le_right->qr,eq_of_mul_eq_mul_left->rX,lt_add_right_iff_pos->si,lt_of_succ_lt_succ->sB,le_of_add_right_le->sC,not_succ_le_zero->tm,le_zero->tn,sub_add_cancel->t3
open List renaming length_map->ac,mem_singleton->al,not_mem_nil->am,getElem?_eq_some_iff->av,mem_of_getElem?->ay,append_nil->aS,length_append->ba,mem_cons->bg,mem_map->bn,size_toArray->bE,map_append->bP,mem_append->bX,getElem?_map->b9,append_assoc->ci,getElem?_eq_getElem->ck,mem_append_left->cq,nodup_cons->cr,forall_mem_cons->cw,mem_append_right->cS,length_reverse->da,take_length->dp,map_cons->dr,all_eq_true->dA,cons_ne_nil->dP,nodup_nil->d0,length_cons->d4,getElem?_of_mem->d6,range->ej,getD_eq_getElem?_getD->eJ,nodup_append->eM,lookup_cons->e9,any_eq_true->fe,length_range->fo,rec->fq,mem_filter->fy,map_congr_left->fz,replicate->f6,map_map->f8,casesOn->gc,length_eq_zero_iff->gg,mem_range->gp,findIdx?_eq_none_iff->gz,getElem?_append_right->hY,length_singleton->h7,findIdx?_eq_some_iff_getElem->ib,pairwise_iff_getElem->ic,getElem?_append_left->ij,filter_cons_of_pos->iE,filter_cons_of_neg->iF,drop_eq_nil_of_le->iO,length_filter_le->i7,reverse_cons->i8,pairwise_map->i9,foldl_append->ja,reverse_reverse->jv,perm_ext_iff_of_nodup->jI,length_take_le'->jS,getElem_map->ka,nil_append->ki,take_append_drop->kx,mem_reverse->ky,map_take->kH,any_cons->kK,mem_cons_of_mem->kL,drop_eq_nil_iff->kM,length_nil->kQ,countP_eq_length_filter->kR,reverse_append->kX,filter_sublist->k6,filterMap_cons->k8,nodup_iff_pairwise_ne->lm,mem_cons_self->lp,filter_append->lx,map_reverse->me,length_take->mf,filter_eq_nil_iff->mM,length_set->m2,find?_cons->m3,eq_nil_or_concat->nh,concat_eq_append->ny,mem_of_mem_drop->oe,lookup->og,length->oi,mem_map_of_mem->oy,map_eq_nil_iff->oz,map_drop->oI,append_ne_nil_of_right_ne_nil->oQ,getElem?_inj->po,any_eq_false->pw,cons_append->qf,forIn_cons->qA,foldl_cons->qB,filter_nil->qE,drop_drop->rd,drop_eq_getElem_cons->ry,length_erase_of_mem->sd,getElem?_cons_succ->sj,range_succ_eq_map->sm,pairwise_lt_range->so,singleton_append->sD,perm_append_comm->sF,getElem?_reverse->sK,countP_singleton->sM,contains_iff_mem->sN,pairwise_append->s9,mem_of_mem_take->tc,findIdx?_append->td,getElem?_range->to,flatMap_append->tq,filter_eq_self->tx,eraseDups_cons->ty,map_filterMap->tF,lookup_append->tI,getElem_range->tJ,getElem?_drop->tN,findIdx?_cons->tP,countP_append->tS
open PySem.Str renaming ofString->ae,ofString_eq_toList->hV
open PySem renaming wpAny_bind->af,wpAny_pure->aE,sizeLine->aT,Value->bm,NameKind->ce,Shared->cE,wpAny_mono->db,wpAny->dy,foldedSetIterable->d3,wpAny_ite_split->eh,model->eA,wpAny_holding->eT,wpAny_setState_of->f7,wpAny_newObj_type->gy,builtinLookup_eq_fast->gT,compareOp->gX,SetTable->hX,wpAny_of_eq->h8,wpAny_call_entry->ia,starEach->ix,codeAny_mono->iA,Around->iL,wpAny_callSpecial?_slot->iP,typeLookup_type->jp,wpAny_standAt->js,wpAny_truthy_bool->j2,Builtin->kg,wpAny_setField->kz,isSubtype_type->kA,cLine->kB,binaryOp->kC,backTo->kD,wpAny_askSetting->kS,slicePick->kT,assignEach->kU,behindInMarks->lb,Comprehension->lf,wpAny_specialOf->ly,pyNext->lI,rawInt->l8,spliced->mr,mainGlobals->mu,holding->mx,codeAny->mB,CmpOp->mE,wpAny_attempt->mP,wpAny_isInstance->nz,evalPart->nE,compEnvC->nI,World->nK,relabel->oj,Program->om,execs->ot,codeAny_builtin->ov,wpAny_field->oS,constantsAlone->oT,callEnvC->o0,assign->o1,Operator->o3,pairTrees->pe,evalPairs->pi,wpAny_setEntries_of->pE,builtinType_eq_fast->pS,signature?_of->qa,foldedForSure->qc,strKind_is->qh,wpAny_pyIter_slot->qS,wpAny_pyIter_list->qV,slot_list_getitem->q0,Keyword->q3,wpAny_forIn_list->rk,argsOk->rq,IsPart->rx,sizeLine_eq->rS,wpAny_execs_nil->sf,letOwnedTupleGo->sg,entryFor_alias->sw,call_meets->sx,wpAny_getItem_list_slice->te,wpAny_comprehension_free->tg,wpAny_list_append_plain->tA,wpAny_eqIsQuiet_tuple->t9,wpAny_pyIter_revIter->ua
open Option.some renaming inj->ag
open Eq renaming symm->ap,subst->mN
open Bool renaming false_ne_true->ax,and_eq_true->be,noConfusion->fg,or_false->kf,not_eq_true'->lT,false_or->oP,and_true->se,eq_iff_iff->ub
open PySem.Heap renaming get?_push_of_some->bt,get?_push_size->cn,lt_size->dt,get?_update_self->f5,SameBut->gI,size_push->oa
open List.cons renaming inj->bS
open PySem.Heap.SameBut renaming update->dT,refl->ke
open PySem.W renaming isStarred->eB,emptyDict->fE,instObj->ko,findIn->kF,specialIn->nL
open Array renaming getElem?_eq_some_iff->eI,getElem?_toList->fk,length_toList->gu,getElem?_eq_getElem->gx,getD->lj,getElem?_eq_none->mo,getElem?_mapIdx->sp,mem_toList_iff->sQ,forIn_toList->tz
open Int renaming toNat_natCast->eS,natCast_nonneg->ge,ofNat_lt->li,natCast_inj->q4,neg_ofNat_le_natCast->sk,sub_eq_iff_eq_add'->sP,emod_lt_of_pos->t5
open PySem.NameKind renaming free->eW,cell->hJ,casesOn->kq
open PySem.Value renaming ref->gi,type->mh
open Option renaming map_some->gv,casesOn->gL,map_eq_some_iff->hM,isSome->hU,some_ne_none->kN,map->qv,mem_toList->tj
open Nat.succ renaming inj->h9
open PySem.SetTable renaming runEnd->iq,turns->iN,Probe->ma,below->ow,insertAt->o2
open PySem.Obj renaming data_mapFields->iS,mapSeq->kG,mapFields->sh,isFreed_of_fields->sT
open LawfulBEq renaming eq_of_beq->i5
open PyProof.Rows.F renaming plain_set_update_loop->i6,entry_set_update_loop->l0
open PySem.SetTable.layClean renaming free->j3
open Ne renaming symm->kl
open Prod renaming ext->kr
open Classical renaming byContradiction->k9
open PySem.F renaming cmp_object->lP
open ForInStep renaming yield->l7
open PySem.SetTable.below renaming go->l9
open PySem.Heap.IsSliceOf renaming new->md
open PyProof.Rows renaming IsTup->mI,len_list->qn,Subscript_->sA
open PySem.Around renaming under_plainId->ng
open PySem.SetTable.probe renaming go->nV
open PySem.Const renaming casesOn->ox
open PySem.Builtin.List renaming listLengthHint->oB,listTooLong->pk
open PySem.UnaryOp renaming casesOn->pT
open List.Perm renaming refl->p9,append_left->rg
open String renaming ofList->q5
open PySem.Builtin.SmallTypes renaming newRecord->q6
open Char renaming toNat->rj
open Nat.ToInt renaming add_congr->r6
open PySem.Manifest renaming owners->th
set_option Elab.async false
set_option linter.unusedSimpArgs false
set_option linter.unusedVariables false
set_option maxRecDepth 100000
set_option genSizeOf false
set_option genInjectivity false
noncomputable section
section
namespace Mine.Lake
theorem dd{p:Prop}[Decidable p](h:decide p=true):p:=of_decide_eq_true h
theorem aV{P:Prop}{a b:Prop}(h:a/\b)(k:a->b->P):P:=k h.1 h.2
theorem AA{P:Prop}{b:Sort _}{c:b->Prop}(h:∃a,c a)(k:∀a:b,c a->P):P:=h.elim fun a d=>k a d
theorem Di{P:Prop}{a b c:Prop}(h:a/\b/\c)(k:a->b->c->P):P:=k h.1 h.2.1 h.2.2
theorem Ad{P:Prop}{b:Sort _}{c d:b->Prop}(h:∃a,c a/\d a)(k:∀a:b,c a->d a->P):P:=h.elim fun a e=>k a e.1 e.2
theorem CL{P:Prop}{c d:Sort _}{e:c->d->Prop}(h:∃a b,e a b)(k:∀a:c,∀b:d,e a b->P):P:=h.elim fun a f=>f.elim fun b g=>k a b g
theorem Bt{P:Prop}{a b c d:Prop}(h:a/\b/\c/\d)(k:a->b->c->d->P):P:=k h.1 h.2.1 h.2.2.1 h.2.2.2
theorem Gz{P:Prop}{b:Sort _}{c d:Prop}{e:b->Prop}(h:c/\d/\∃a,e a)(k:c->d->∀a:b,e a->P):P:=h.2.2.elim fun a f=>k h.1 h.2.1 a f
theorem Cr{P:Prop}{b:Sort _}{c:Prop}{d e:b->Prop}(h:c/\∃a,d a/\e a)(k:c->∀a:b,d a->e a->P):P:=h.2.elim fun a f=>k h.1 a f.1 f.2
theorem Az{P:Prop}{b:Sort _}{d e f:b->Prop}(h:∃a,d a/\e a/\f a)(k:∀a:b,d a->e a->f a->P):P:=h.elim fun a c=>k a c.1 c.2.1 c.2.2
theorem AQ{P:Prop}{c d:Sort _}{e f:c->d->Prop}(h:∃a b,e a b/\f a b)(k:∀a:c,∀b:d,e a b->f a b->P):P:=h.elim fun a i=>i.elim fun b g=>k a b g.1 g.2
theorem Fp{P:Prop}{d e f:Sort _}{g:d->e->f->Prop}(h:∃a b c,g a b c)(k:∀a:d,∀b:e,∀c:f,g a b c->P):P:=h.elim fun a i=>i.elim fun b j=>j.elim fun c l=>k a b c l
theorem Ir{P:Prop}{b:Sort _}{d e f g:b->Prop}(h:∃a,d a/\e a/\f a/\g a)(k:∀a:b,d a->e a->f a->g a->P):P:=h.elim fun a c=>k a c.1 c.2.1 c.2.2.1 c.2.2.2
theorem Ay{P:Prop}{c d:Sort _}{f g i:c->d->Prop}(h:∃a b,f a b/\g a b/\i a b)(k:∀a:c,∀b:d,f a b->g a b->i a b->P):P:=h.elim fun a j=>j.elim fun b e=>k a b e.1 e.2.1 e.2.2
theorem Cb{P:Prop}{d e f:Sort _}{g i:d->e->f->Prop}(h:∃a b c,g a b c/\i a b c)(k:∀a:d,∀b:e,∀c:f,g a b c->i a b c->P):P:=h.elim fun a l=>l.elim fun b m=>m.elim fun c j=>k a b c j.1 j.2
theorem WW{P:Prop}{e f g i:Sort _}{j:Prop}{l:e->f->g->i->Prop}(h:j/\∃a b c d,l a b c d)(k:j->∀a:e,∀b:f,∀c:g,∀d:i,l a b c d->P):P:=h.2.elim fun a m=>m.elim fun b n=>n.elim fun c o=>o.elim fun d p=>k h.1 a b c d p
theorem BU{P:Prop}{b:Sort _}{d e f g i:b->Prop}(h:∃a,d a/\e a/\f a/\g a/\i a)(k:∀a:b,d a->e a->f a->g a->i a->P):P:=h.elim fun a c=>k a c.1 c.2.1 c.2.2.1 c.2.2.2.1 c.2.2.2.2
theorem AN{P:Prop}{c d:Sort _}{f g i j:c->d->Prop}(h:∃a b,f a b/\g a b/\i a b/\j a b)(k:∀a:c,∀b:d,f a b->g a b->i a b->j a b->P):P:=h.elim fun a l=>l.elim fun b e=>k a b e.1 e.2.1 e.2.2.1 e.2.2.2
theorem Br{P:Prop}{d e f:Sort _}{i j l:d->e->f->Prop}(h:∃a b c,i a b c/\j a b c/\l a b c)(k:∀a:d,∀b:e,∀c:f,i a b c->j a b c->l a b c->P):P:=h.elim fun a m=>m.elim fun b n=>n.elim fun c g=>k a b c g.1 g.2.1 g.2.2
theorem DA{P:Prop}{c d:Sort _}{f g i j l:c->d->Prop}(h:∃a b,f a b/\g a b/\i a b/\j a b/\l a b)(k:∀a:c,∀b:d,f a b->g a b->i a b->j a b->l a b->P):P:=h.elim fun a m=>m.elim fun b e=>k a b e.1 e.2.1 e.2.2.1 e.2.2.2.1 e.2.2.2.2
theorem B6{P:Prop}{d e f:Sort _}{i j l m:d->e->f->Prop}(h:∃a b c,i a b c/\j a b c/\l a b c/\m a b c)(k:∀a:d,∀b:e,∀c:f,i a b c->j a b c->l a b c->m a b c->P):P:=h.elim fun a n=>n.elim fun b o=>o.elim fun c g=>k a b c g.1 g.2.1 g.2.2.1 g.2.2.2
theorem GF{P:Prop}{e f g i:Sort _}{l m n:e->f->g->i->Prop}(h:∃a b c d,l a b c d/\m a b c d/\n a b c d)(k:∀a:e,∀b:f,∀c:g,∀d:i,l a b c d->m a b c d->n a b c d->P):P:=h.elim fun a o=>o.elim fun b p=>p.elim fun c q=>q.elim fun d j=>k a b c d j.1 j.2.1 j.2.2
theorem L7{P:Prop}{e f g i:Sort _}{l m n o p q r s:e->f->g->i->Prop}(h:∃a b c d,l a b c d/\m a b c d/\n a b c d/\o a b c d/\p a b c d/\q a b c d/\r a b c d/\s a b c d)(k:∀a:e,∀b:f,∀c:g,∀d:i,l a b c d->m a b c d->n a b c d->o a b c d->p a b c d->q a b c d->r a b c d->s a b c d->P):P:=h.elim fun a t=>t.elim fun b u=>u.elim fun c v=>v.elim fun d j=>k a b c d j.1 j.2.1 j.2.2.1 j.2.2.2.1 j.2.2.2.2.1 j.2.2.2.2.2.1 j.2.2.2.2.2.2.1 j.2.2.2.2.2.2.2
theorem rW{a b:Nat}(c:b<a):(↑a:Int)-1-(↑b:Int)=(↑(a-1-b):Int):=by rw[Int.ofNat_sub (Nat.le_sub_one_of_lt c),Int.ofNat_sub (aI (bq _) c)];rfl
theorem qY{b:Nat}(c:b<=3):b=0\/b=1\/b=2\/b=3:=(by decide:∀a,a<=3->a=0\/a=1\/a=2\/a=3) b c
theorem Yh{a b:Nat}(c:a<1+b/5%3):a<=2:=de (bv c (br (de (hZ _ (by decide:0<3))) 1))
theorem Zn{a b a2:Nat}(c:a<=a2)(d:b<=a2):a+(b-a)<=a2:=(Nat.le_total a b).elim (fun h=>ab (ct (ku h)) d) fun h=>by rw[Nat.sub_eq_zero_of_le h];exact c
theorem ar1{a b:Nat}(c:b<a):(↑(a-1-b):Int)-1=(↑a:Int)-1-(↑(b+1):Int):=(congrArg (· - 1) (rW c).symm).trans (Int.sub_sub _ _ _)
theorem ar2{a b:Nat}(c:b<a):0<(↑a:Int)-(↑b:Int):=Int.sub_pos_of_lt (li.mpr c)
theorem u0{a b:Nat}:(↑a:Int)-(↑(b+1):Int)=(↑a:Int)-(↑b:Int)-1:=(Int.sub_sub (a:Int) b 1).symm
theorem xJ{a:Nat}:(↑a:Int)-(↑a:Int)<=0:=Int.le_of_eq (Int.sub_self _)
theorem ar6{a b c:Nat}(d:b<=c)(e:a+c<990):a+b<990:=aI (br d a) e
theorem vh{a b a2 c:Nat}(d:b<=c)(e:a+40*c+400<a2):a+40*b+400<a2:=aI (cK (br (dE 40 d) a) 400) e
theorem vX{a a1 b:Nat}(c:a+b<990)(d:a1=1000):a<a1:=gd (aI (bp a b) (ee c (by decide))) d.symm
theorem vf{a a1 b:Nat}(c:a+40*b+400<a1):a+300<a1:=aI (cc (bp a (40*b)) (by decide:300<=400)) c
theorem s8{a b a2:Nat}(c:a+40*(b+1)+400<a2):a+1+40*b+400<a2:=aI (cK (by rw[dn,ds 1];exact br (br (by decide) _) _) 400) c
theorem tB{a b:Nat}(c:a+(b+1)<990):a+1+b<990:=by rw[dn,ds 1];exact c
theorem yh{a b a2:Nat}(c:a+40*(b+1)+400<a2):a+3+40*b+400<a2:=aI (cK (by rw[dn,ds 3];exact br (br (by decide) _) _) 400) c
theorem Wi{a a1:Nat}(b:a+300<a1):a+8+2<a1:=aI (br (by decide:10<=300) a) b
theorem xY{a b:Nat}(c:a+(b+1)<=100):a+1+b<=100:=by rw[dn,ds 1];exact c
theorem zV{a0:Int}{a:Nat}(b:a0=(↑a:Int)):0<=a0:=Z b (ge a)
theorem zu{a b c a3:Nat}(d:10+a+b+c<=a3):a+(b+c)<a3:=bv (gd (m1 (n:=a+(b+c)) (k:=10) (by decide)) (by rw[dn 10 a b,dn 10 (a+b) c,dn a b c])) d
theorem uH{a b c:Nat}(d:b<=1000000)(e:c<=b)(f:a<=c):a<=1000000:=ab f (ab e d)
theorem AdD{a b c d:Nat}(e:b<=1000000)(f:c+d<=b)(g:a+1<=c+d):a<=1000000:=ab (hH g) (ab f e)
theorem AdZ{a b c:Nat}(d:b<=1000000)(e:a+c<=b):a<=1000000:=ab (bp a c) (ab e d)
theorem wF{b a c d:Nat}(e:c<=1000000)(f:a+d<=c)(g:b<=d):b+a<=1000000:=ab (ab (ct (ds b a)) (br g a)) (ab f e)
theorem ym{b a a2 c:Nat}(d:c+a<=a2)(e:b<c):b+a<=a2:=ab (cK (dk e) a) d
theorem wB{b a:Nat}(c:b<=a):b+1+(1+0)+1<=10+a+10:=(cc (ab c (cy a 10)) (by decide:3<=10):b+3<=10+a+10)
theorem yW{a a1:Nat}(b:a<=a1):a+1<=10+a1:=by rw[ds 10];exact cc b (by decide)
theorem Ael{a b a2:Nat}(c:a<=b+a2):a+1<=10+b+a2:=by rw[dn,ds 10];exact cc c (by decide)
theorem xV{a:Nat}(b:a<=100000):a+1<=1000000:=ab (cK b 1) (by decide)
theorem AeJ{a b:Nat}(c:a+b<=50000):a<=100000:=ab (bp a b) (ab c (by decide))
theorem zY{b a c d:Nat}(e:a+c<=50000)(f:d+1<=a)(g:b<=d):b<=1000000:=ab g (ab (hH f) (ab (bp a c) (ab e (by decide))))
theorem uc{a b:Nat}(c:a<b)(d:b<=5):a<10:=bv c (ab d (by decide))
theorem ur{a b c d:Nat}(e:b<c)(f:c<=5)(g:a<=b/\d<=5):a<10:=aI g.1 (bv e (ab f (by decide)))
theorem wN{a a1 b c:Nat}(d:b<a1)(e:a<=b/\c<=5):a<a1:=aI e.1 d
theorem xr{a:Nat}(b:a<=5):a<=1000:=ab b (by decide)
theorem vG{b:Nat}(c:b<=5)(d:¬b=5)(e:¬b=4):b<=3:=(by decide:∀a,a<=5->¬a=5->¬a=4->a<=3) b c d e
theorem YB{a a1 b:Nat}(c:a+(b+1)=a1):a<a1:=Z (ap c) (mi (iX b))
theorem Xe{a b a2:Nat}(c:a+(b+1)=a2):a+1+b=a2:=(iv a b).trans c
theorem uQ{a b a2 c d:Nat}(e:a<=6*c)(f:c<=3)(g:d<=1)(h:b<=3*d+a2):10+a+(10+0+b+0)<=41+a2:=ab (cc (br (ab e (dE 6 f)) 10) (br (ab h (cK (dE 3 g) a2)) 10)) (ct ((dn 28 10 (3+a2)).symm.trans (dn 38 3 a2).symm))
theorem Adz{a b a2 c d:Nat}(e:a<=6*c)(f:c<=3)(g:d<=1)(h:b<=3*d+a2):10+(a+b)+(10+0+0+0)<=41+a2:=ab (cK (br (cc (ab e (dE 6 f)) (ab h (cK (dE 3 g) a2))) 10) 10) (ct ((congrArg (·+10) ((congrArg (10+·) (dn 18 3 a2).symm).trans (dn 10 21 a2).symm)).trans (lS 31 a2 10)))
theorem wJ{b c a d:Nat}(e:d<=60*a)(f:b<=3)(g:c<=41+d):10+b+c+0<=60*(a+1):=by show 10+b+c<=60*(a+1);exact ab (cc (br f 10) (ab g (br e 41))) (ab (ct (dn 13 41 (60*a)).symm) (ab (cK (by decide:13+41<=60) _) (ct (ds 60 (60*a)))))
theorem zU{a:Nat}(b:a<=5):2*a+1<=10000:=ab (cK (dE 2 b) 1) (by decide)
theorem tV{a b c:Nat}(d:b<=5)(e:c<b)(f:a+1<=2*c+2):a<=20:=hH (ab f (ab (cK (dE 2 (ab (dk e) d)) 2) (by decide)))
theorem uh{a b c:Nat}(d:b<=5)(e:c<b)(f:a<=2*c+2):a<=20:=ab f (ab (cK (dE 2 (ab (dk e) d)) 2) (by decide))
theorem Ad7{a a1:Nat}(b:2*a=2*a1):a=a1:=rX (by decide) b
theorem uJ{a a1:Nat}(b:2*a+1=2*a1+1):a=a1:=rX (by decide:0<2) (h9 b)
theorem zW{a b:Nat}(c:2*a=2*b+1):False:=absurd ((Nat.mul_mod_right 2 a).symm.trans ((congrArg (· % 2) c).trans (Nat.mul_add_mod 2 b 1))) (by decide:0≠1%2)
theorem rU{a a1:Nat}(b:a+1=a1):a<a1:=Z (ap b) (eK a)
theorem AdQ{a b c:Nat}(d:a+1=b)(e:c+1<b)(f:c=a):False:=dQ _ (gd e (d.symm.trans (congrArg (·+1) f.symm)))
theorem xR{a a1:Nat}(b:a<=a1+1)(c:¬a=a1+1):a<=a1:=de (gE b c)
theorem AdO{a a1:Nat}(b:a+1<=a1)(c:¬a+1<a1):a+1=a1:=io b (fh c)
theorem wZ{a0 a b:Nat}(c:a+a0=b)(d:a<b):a0-1<a0:=Nat.sub_lt (si.mp (gd d c.symm)) l5
theorem Aez{a b a2:Nat}(c:a+b=a2)(d:a<a2):a+1+(b-1)=a2:=((dn a 1 (b-1)).trans (congrArg (a+·) (ku (si.mp (gd d c.symm))))).trans c
theorem yf{a b c:Nat}(d:a+b=c)(e:c<=5):a<=1000000:=ab (bp a b) (ab (ct d) (ab e (by decide)))
theorem u5{a a1 b:Nat}(c:a+b=a1)(d:¬a<a1):a=a1:=io (ab (bp a b) (ct c)) (fh d)
theorem YT{a:Nat}(b:a<6):a<10:=bv b (by decide)
theorem zp{b:Nat}(c:3<b)(d:b<=5):b=4\/b=5:=(by decide:∀a,a<=5->3<a->a=4\/a=5) b d c
theorem vI{a:Nat}(b:¬3<a):a=0\/a=1\/a=2\/a=3:=qY (fh b)
theorem Xx{a b:Nat}(c:b<=5)(d:a<b):a<=1000000:=ab (dk d) (ab c (by decide))
theorem vL{a0:Nat}(h0:a0<=4):a0≠6:=fun q=>absurd (Z (ap q) h0:6<=4) (by decide)
theorem uW{a:Nat}(b:a<=4):a<7:=aI b (by decide)
theorem uw{a:Nat}(b:a<=15):a<=18:=ab b (by decide)
theorem tE{a b:Nat}(c:b<=15)(d:a<=b):a<=1000:=ab d (ab c (by decide))
theorem vQ{a b c:Nat}(d:c<=15)(e:a<=c)(f:b<=2):a+b<=1000000:=ab (cc (ab e d) f) (by decide)
theorem Aev{a b c:Nat}(d:c<=15)(e:a<=c)(f:b<=2):a+b<=18:=ab (cc (ab e d) f) (by decide)
theorem Aeu{a b c d:Nat}(e:b<=15)(f:c<=b)(g:d<=2)(h:a<=c+d):a<=1000:=ab h (ab (cc (ab f e) g) (by decide))
theorem xg{a:Nat}(b:a<=200000):a<=1000000:=ab b (by decide)
theorem zb{a b:Nat}(c:a<1+b/5%3):a<=1000000:=ab (Yh c) (by decide)
theorem AeI{a:Nat}(b:a<=10):a<=1000000:=ab b (by decide)
theorem wg{a b c d:Nat}(e:c<=10)(f:b<1+d/5%3)(g:a<=100000):a+3*b+c<=1000000:=ab (cc (cc g (dE 3 (Yh f))) e) (by decide)
theorem AdM{a b c d:Nat}(e:b=c)(f:c<1+d/5%3)(g:a=b):a<=10:=by rw[g,e];exact ab (Yh f) (by decide)
theorem AeK{a:Nat}(b:a<=4):a<=1000000:=ab b (by decide)
theorem xX{a:Nat}(b:a<=4):a<=10:=ab b (by decide)
theorem z8{a b:Nat}(c:b<=4)(d:a<=100000):a+7*b<=200000:=ab (cc d (dE 7 c)) (by decide)
theorem ye{a a1 b:Nat}(c:b=a1)(d:¬a<b)(e:a-b=0):a=a1:=(io (nX e) (fh d)).trans c
theorem xP{a b c:Nat}(d:a=1+(b+7*c)/5%3):a<=3:=by rw[d];exact br (de (hZ _ (by decide))) 1
theorem yV{a:Nat}{b:Int}(c:(↑a:Int)=b%99991):a<=100000:=Int.ofNat_le.mp (Int.le_trans (Int.le_of_eq c) (Int.le_of_lt (Int.lt_trans (t5 b (by decide)) (by decide))))
theorem wW{a:Nat}(b:a<=63):a+2<=100000:=ab (cK b 2) (by decide)
theorem zH{a b:Nat}(c:a<1+b%5):a<=4:=de (bv c (br (de (hZ _ (by decide:0<5))) 1))
theorem yX{a b:Nat}(c:a=1+b%5):a<=5:=by rw[c];exact br (de (hZ _ (by decide))) 1
theorem v6{a b c d:Nat}(e:a<=3*b+c)(f:c<=60*d)(g:b=1)(h:d<=5):a<=9000:=ab e (ab (cc (ct (congrArg (3 * ·) g)) (ab f (dE 60 h))) (by decide))
theorem yq{a a1:Nat}(b:a+1=a1):0+a+1=a1:=(congrArg (·+1) (df a)).trans b
theorem xm{a b:Nat}(c:a+1=b)(d:b<=5):a+3<=33:=ab (cK (ab (ct c) d) 2) (by decide)
theorem Zt{a:Nat}(b:a<=5):a<=1000000:=ab b (by decide)
theorem uG{a b a2:Nat}(c:a+b+2=a2):a+1+b+1=a2:=by rw[lS a 1 b];exact c
theorem Zb{a b:Nat}(c:b<=5)(d:a=b):a<=1000000:=ab (ct d) (ab c (by decide))
theorem zK{a a1:Nat}(b:a+0+1=a1):¬a+1<a1:=fun q=>dQ _ (gd q b.symm)
theorem vU{a a1 b:Nat}(c:a+(b+1)+1=a1):a<a1:=Z (ap c) (fR (bp a (b+1)))
theorem yl{a a1 b:Nat}(c:a+(b+1)+1=a1):a+1<a1:=Z (ap c) (qo (mi (iX b)))
theorem zJ{a b:Nat}(c:a<b)(d:b<=1000):a<=1000000:=ab (dk c) (ab d (by decide))
theorem AbO{a a1:Nat}(b:a1-a=0)(c:a<=a1):a=a1:=io c (nX b)
theorem w7{a b a2:Nat}(c:a-b=a2+1):a-(b+1)=a2:=(Nat.sub_succ a b).trans (congrArg Nat.pred c)
theorem wK{a a1:Nat}(b:a+300<a1):a+1+1+1<a1:=aI (br (by decide:3<=300) a) b
theorem wk{a b:Nat}(c:b<0):a=0:=absurd c (im _)
theorem vd{d a1 a b c:Nat}(e:a=b)(f:b<=c)(g:c<a):d=a1:=absurd (bv g (ab (ct e) f)) (dQ _)
theorem W8{c a1 a b:Nat}(d:a=b)(e:a<b):c=a1:=absurd d (dL e)
theorem Zj{a a1 b:Nat}(c:b<10*a)(d:a1<=b):10*a=10*a-a1+a1:=(t3 (ab d (dk c))).symm
theorem ZA{a b c:Nat}(d:c<10*a)(e:b<=c):10*a-b=10*a-b-1+1:=(t3 (Nat.sub_pos_of_lt (aI e d))).symm
theorem Adw{a b:Nat}:¬a-b-(a-b)>0:=fun q=>dQ 0 (gd q (Nat.sub_self _))
theorem uB{a b a2:Nat}(c:a<b+1-a2):a<=b-a2:=Nat.le_sub_of_add_le (de (Nat.add_lt_of_lt_sub c))
theorem xj{a b a2:Nat}(c:b<=a)(d:¬a2<a+1-b):a-b+1+(a2-(a+1-b))=a2:=(congrArg (·+(a2-(a+1-b))) (Nat.sub_add_comm c).symm).trans (ku (fh d))
theorem Zp{a a1:Nat}(b:a≠a1)(c:a<a1+1):a<a1:=gE (de c) b
theorem uO{a b:Nat}(c:a<b)(d:a=b):False:=absurd d (dL c)
theorem Zr{a b:Nat}(c:a<=b)(d:b+1<=a):False:=dQ _ (ab d c)
theorem yx{a a1 b:Nat}(c:a+(b+1)<=a1+1):a<=a1:=ab (bp a b) (i4 c)
theorem uI{a b c:Nat}(d:a+(b+1)<=c+1):a+1+b<=c+1:=by rw[dn,ds 1];exact d
theorem vP{a:Nat}(b:a=5):a<=31+1:=Z b (by decide)
theorem AcE{a:Nat}(b:7*3<=(a+1)*5->False):a+1<=4:=fh fun z=>b (ab (by decide:7*3<=5*5) (kP 5 z))
theorem pB{n:Nat}(h:n<=2^60):(n:Int)<2^63:=li.mpr (aI h (by decide):n<2^63)
theorem r63{n:Nat}(h:n<=1000000):(n:Int)<2^63:=pB (ab h (by decide))
end Mine.Lake
end
section
open PySem PySem.SetTable
set_option tactic.hygienic false
namespace Mine.Lake
noncomputable def oU(m:Nat)(h:Int):ma:={j:=bits h%(m+1),more:=iq m (bits h%(m+1))-bits h%(m+1),i:=bits h%(m+1),perturb:=bits h,dummy:=none}
noncomputable def EE(m:Nat)(p:ma):ma:=if p.more>0 then{p with j:=p.j+1,more:=p.more-1}else
 {p with j:=(leap m p.i p.perturb).1,more:=iq m (leap m p.i p.perturb).1-(leap m p.i p.perturb).1,i:=(leap m p.i p.perturb).1,perturb:=(leap m p.i p.perturb).2}
theorem G5(t:hX)(h:Int):t.probeStart h=oU t.mask h:=rfl
theorem RQ(t:hX)(p:ma):t.advance p=EE t.mask p:=rfl
noncomputable def jW(m:Nat)(p:ma):Nat->ma
 |0=>p
 |n+1=>EE m (jW m p n)
theorem Pj(m:Nat)(p:ma)(n:Nat):jW m p (n+1)=jW m (EE m p) n:=by
 induction n with
 |zero=>rfl|succ n a=>show EE m (jW m p (n+1))=EE m (jW m (EE m p) n);exact Z a rfl
theorem Q6(m:Nat)(p:ma):(EE m p).dummy=p.dummy:=by unfold EE;split<;>rfl
theorem TU(m:Nat)(p:ma)(n:Nat):(jW m p n).dummy=p.dummy:=by
 induction n with
 |zero=>rfl|succ n a=>show(EE m _).dummy=_;exact Z (Q6 ..) (Z a rfl)
def sq(m:Nat)(h:Int)(n:Nat):Nat:=(jW m (oU m h) n).j
set_option smartUnfolding false in
theorem Ov(t:hX)(a:Nat->Int)(h:Int)(n:Nat)(p:ma):nV t a h (n+1) p=Slot.casesOn (motive:=fun b=>Option Met) (t.slot p.j) (some (.empty p.j p.dummy)) (nV t a h n (t.advance {p with dummy:=some p.j})) fun i=>if(a i==h)=true then some (.candidate p.j i (t.advance p))else nV t a h n (t.advance p):=rfl
theorem S8(t:hX)(hashAt:Nat->Int)(h:Int)(n:Nat):∀(fuel:Nat) (p:ma),(∀i,i<n->∃e,t.slot (jW t.mask p i).j=.live e/\hashAt e≠h)->nV t hashAt h (fuel+n) p=nV t hashAt h fuel (jW t.mask p n):=
 mS (fun fuel p z=>rfl) (fun n ih fuel p hs=>Ad (hs 0 (iX n)) fun e h1 h2=>Z (Ov ..) (Z h1 ((if_neg fun q=>h2 (beq_iff_eq.mp q)).trans ((ih fuel (EE t.mask p) fun i hi=>Z (ap (Pj ..)) (hs (i+1) (qo hi))).trans (Z (Pj ..) rfl))))) n
theorem Vc(t:hX)(a:Nat->Int)(h:Int)(fuel:Nat)(p:ma)(e:t.slot p.j=.empty):nV t a h (fuel+1) p=some (.empty p.j p.dummy):=Z (Ov ..) (Z e rfl)
theorem Xk(t:hX)(a:Nat->Int)(h:Int)(fuel:Nat)(p:ma){i:Nat}(e:t.slot p.j=.live i)(hh:a i=h):nV t a h (fuel+1) p=some (.candidate p.j i (t.advance p)):=Z (Ov ..) (Z e (if_pos (beq_iff_eq.mpr hh)))
theorem AaZ{a hi:Nat}(h:a<hi):(a+hi)/2<hi:=Nat.div_lt_of_lt_mul (gd (j1 h hi) (Nat.two_mul hi).symm)
theorem RI{a b:Nat}(h:a<=b):a<=(a+b)/2:=(Nat.le_div_iff_mul_le (dd rfl)).mpr (ab (ct (Nat.mul_two a)) (br h a))
theorem Iu{M:Array Nat}{i a b:Nat}(h:i<M.size):M.getD i a=M.getD i b:=(dif_pos h).trans (dif_pos h).symm
theorem VJ(M:Array Nat)(j:Nat)(o:∀a b,a<b->b<M.size->M.getD a 0<M.getD b 0):∀(fuel d c:Nat),c-d<=fuel->d<=c->c<=M.size->(∀i,i<d->M.getD i 0<j)->(∀i,c<=i->i<M.size->j<=M.getD i 0) ->
  l9 M j fuel d c<=M.size/\(∀i,i<l9 M j fuel d c->M.getD i 0<j)/\(∀i,l9 M j fuel d c<=i->i<M.size->j<=M.getD i 0):=by
 intro fuel;induction fuel with
 |zero=>exact fun d c h f g k l=>⟨ab f g,k,fun i m e=>l i (ab (nX (tn.mp h)) m) e⟩
 |succ fuel p=>
  intro d c h f g k l;refine(Nat.lt_or_ge d c).elim (fun q=>?_) fun q=>?_
  ·have n:=AaZ q;have e:=bv n g;refine(Nat.lt_or_ge (M.getD ((d+c)/2) j) j).elim (fun z=>?_) fun z=>?_
   ·exact Z (show l9 M j (fuel+1) d c=l9 M j fuel ((d+c)/2+1) c from(if_pos q).trans (if_pos z)) (p _ _ (ab (Nat.sub_le_sub_left (cv (RI f)) c) (Nat.pred_le_pred h)) n g (fun i w=>(Nat.lt_succ_iff_lt_or_eq.mp w).elim (fun w=>ee (o i _ w e) (Iu e▸z)) fun w=>w.symm▸Iu e▸z) l)
   ·exact Z (show l9 M j (fuel+1) d c=l9 M j fuel d ((d+c)/2)from(if_pos q).trans (if_neg (i3.mpr z))) (p _ _ (de (bv (Nat.sub_lt_sub_right (RI f) n) h)) (RI f) (dk e) k fun i w v=>(Nat.lt_or_eq_of_le w).elim (fun w=>ab (Iu e▸z) (dk (o _ i w v))) fun w=>w▸Iu e▸z)
  ·exact Z (show l9 M j (fuel+1) d c=d from if_neg (i3.mpr q)) ⟨ab f g,k,fun i w v=>l i (ab q w) v⟩
def OX(M:Array Nat):Prop:=∀a b,a<b->b<M.size->M.getD a 0<M.getD b 0
theorem Fi{M:Array Nat}(R:OX M)(j:Nat):ow M j<=M.size/\(∀i,i<ow M j->M.getD i 0<j)/\(∀i,ow M j<=i->i<M.size->j<=M.getD i 0):=
 VJ M j R M.size 0 M.size (pc _ _) (bq _) (ai _) (fun i a=>absurd a (im _)) fun i a b=>absurd b (i3.mpr a)
theorem JJ{l:List Nat}(h:l.Pairwise (· < ·)){M:Array Nat}(e:M.toList=l):OX M:=by
 intro a b c f;have d:b<l.length:=by refine Z (ap e) ?_;simpa using f
 have:=(ic.mp h) a b (ee c d) d c;subst e;have g:=ee c f;simpa[lj,g,f]using this
theorem mJ{t:hX}(R:OX t.place){i j:Nat}(e:t.place[i]?=some j):t.slot j=.live i:=by
 refine Di (Fi R j) fun l c d=>AA (eI.mp e) fun b f=>?_;have a:t.place.getD i 0=j:=by simp[lj,b,f]
 have g:ow t.place j=i:=by
  rcases pV (ow t.place j) i with q|q|q
  ·have h:=d (ow t.place j) (ai _) (ee q b);have k:=R _ _ q b;exact vd a h k
  ·exact q
  ·have:=c i q;exact W8 a this
 unfold slot;dsimp only;refine Z g (Z e ?_);simp
theorem Rq{t:hX}(a:t.dummies=#[]){j:Nat}(e:j∉t.place.toList):t.slot j=.empty:=by
 unfold slot has;dsimp only;have b:(t.place[ow t.place j]?==some j)=false:=by
  refine Z (propext Bool.eq_false_iff) ?_;intro q;have c:=i5 q;exact e (sQ.mpr (Array.mem_of_getElem? c))
 refine Z b (Z a ?_);simp
theorem Y6{n:Nat}:∀{P:Nat->Bool},P n=true->∃k,k<=n/\P k=true/\∀i,i<k->P i=false:=by
 induction n with
 |zero=>intro P h;exact⟨0,ai _,h,fun i a=>absurd a (im _)⟩
 |succ n c=>intro P h;exact(Bool.eq_false_or_eq_true (P 0)).elim (fun b=>⟨0,bq _,b,fun i a=>absurd a (im _)⟩) fun b=>Az (c h) fun k d e f=>⟨k+1,cv d,e,fun i=>l6 i (fun g=>b) fun i a=>f i (sB a)⟩
structure eG(t:hX)(m:Nat)(L:List (Nat×Int)):Prop where
 mask:t.mask=m
 place:t.place.toList=L.map (·.1)
 qR:t.dummies=#[]
 rise:(L.map (·.1)).Pairwise (· < ·)
 le:∀x∈L,x.1<=m
 reach:∀x∈L,∃n,n<10*iN m/\sq m x.2 n=x.1/\∀i,i<n->sq m x.2 i∈L.map (·.1)
section
variable{t:hX}{m:Nat}{L:List (Nat×Int)}
variable{x:Nat×Int}
theorem eG.live(h:eG t m L){i:Nat}(e:L[i]?=some x):t.slot x.1=.live i:=
 mJ (JJ h.rise h.place) (by refine Z (ap (fk)) (Z h.place (Z (b9) (Z e ?_)));rfl)
theorem eG.empty(h:eG t m L){j:Nat}(e:j∉L.map (·.1)):t.slot j=.empty:=Rq h.qR (Z h.place e)
theorem eG.found(h:eG t m L){a:Nat->Int}(r:∀i x,L[i]?=some x->a i=x.2)(s:x∈L):
  ∃j i D,t.probe a x.2 (t.probeStart x.2)=some (.candidate j i D)/\L[i]?=some (j,x.2):=by
 obtain⟨n,u,E,F⟩:=h.reach x s;obtain⟨k,v,w,G⟩:=Y6 (P:=fun i=>L.any fun y=>decide (y.1=sq m x.2 i)&&decide (y.2=x.2)) (n:=n) (by
  rw[fe];exact⟨x,s,by simp[E]⟩)
 rw[fe]at w;refine Ad w fun y H b=>?_;simp only[be,decide_eq_true_eq]at b;refine AA (d6 H) fun i l=>?_;have A:=h.live l;rw[b.1]at A;have f:=h.mask;refine⟨sq m x.2 k,i,EE m (jW m (oU m x.2) k),?_,by rw[l,<-b.1,<-b.2]⟩;unfold probe;rw[G5,f,show 10*iN m=(10*iN m-k)+k by exact Zj u v];rw[S8 t a x.2 k (10*iN m-k) (oU m x.2) fun g o=>?_]
 ·rw[f,show 10*iN m-k=(10*iN m-k-1)+1 by exact ZA u v,Xk t a x.2 _ _ A (by rw[r i y l,b.2]),RQ,f];rfl
 ·have B:=G g o;rw[pw]at B;have p:sq m x.2 g∈L.map (·.1):=by
   by_cases q:g<n
   ·exact F g q
   ·lia
  refine Ad (bn.mp p) fun z c d=>AA (d6 c) fun C e=>?_;rw[f];refine⟨C,by have:=h.live e;rw[d]at this;exact this,?_⟩;rw[r C z e];intro q;exact B z c (by simp[d,q])
theorem eG.free(h:eG t m L){a:Nat->Int}(s:∀i x,L[i]?=some x->a i=x.2){g:Int}(u:g∉L.map (·.2)){n:Nat}(f:n<10*iN m)(v:sq m g n∉L.map (·.1)):
  ∃k,k<10*iN m/\t.probe a g (t.probeStart g)=some (.empty (sq m g k) none)/\sq m g k∉L.map (·.1)/\∀i,i<k->sq m g i∈L.map (·.1):=by
 obtain⟨k,j,w,y⟩:=Y6 (P:=fun i=>decide (sq m g i∉L.map (·.1))) (n:=n) (by simpa using v);have b:sq m g k∉L.map (·.1):=by simpa using w
 have c:=fun i A=>by have:=y i A;rw[decide_eq_false_iff_not]at this;exact Classical.not_not.mp this
 have l:=h.mask;refine⟨k,by exact aI j f,?_,b,c⟩;unfold probe;rw[G5,l,show 10*iN m=(10*iN m-k)+k by exact Zj f j];rw[S8 t a g k (10*iN m-k) (oU m g) fun B o=>?_]
 ·rw[l,show 10*iN m-k=(10*iN m-k-1)+1 by exact ZA f j,Vc t a g _ _ (h.empty b),TU];rfl
 ·refine Ad (bn.mp (c B o)) fun z d p=>AA (d6 d) fun r e=>?_;rw[l];refine⟨r,by have:=h.live e;rw[p]at this;exact this,?_⟩;rw[s r z e];exact fun q=>u (bn.mpr ⟨z,d,q⟩)
theorem NG{i:Nat}(h:i<=m):iq m i<=m:=by unfold iq;exact(Decidable.em (i+9<=m)).elim (fun q=>Z (if_pos q) q) fun q=>Z (if_neg q) h
theorem JE(m i:Nat):i<=iq m i:=by unfold iq;exact(Decidable.em (i+9<=m)).elim (fun q=>Z (if_pos q) (bp i 9)) fun q=>Z (if_neg q) (ai i)
theorem Abb(m:Nat)(h:Int):(oU m h).j+(oU m h).more<=m:=by
 have a:bits h%(m+1)<=m:=de (hZ _ (iX m));have b:=NG a;have c:=JE m (bits h%(m+1));show bits h%(m+1)+(iq m (bits h%(m+1))-bits h%(m+1))<=m;exact Zn a b
theorem Yb{p:ma}(h:p.j+p.more<=m):(EE m p).j+(EE m p).more<=m:=by
 unfold EE;by_cases q:p.more>0
 ·exact Z (if_pos q) (Z (dn p.j 1 (p.more-1)) (Z (ku q) h))
 ·refine Z (if_neg q) ?_;have a:(leap m p.i p.perturb).1<=m:=de (hZ _ (iX m));have b:=NG a;have c:=JE m (leap m p.i p.perturb).1;exact Zn a b
theorem xU{p:ma}(h:p.j+p.more<=m):∀n,(jW m p n).j+(jW m p n).more<=m:=by
 intro a;induction a with
 |zero=>
  exact h
 |succ n b=>
  exact Yb (b)
theorem VO(m:Nat)(h:Int)(n:Nat):sq m h n<=m:=by have:=xU (Abb m h) n;unfold sq;exact sC this
theorem FO{a:Type}(M:Array a)(p:Nat)(x:a):(o2 M p x).toList=M.toList.take p++x::M.toList.drop p:=by
 unfold o2;have h:(M.toList.drop p).take (M.size-p)=M.toList.drop p:=List.take_of_length_le (by simp);simp[h]
noncomputable def RD(L:List (Nat×Int))(p:Nat)(x:Nat×Int):List (Nat×Int):=L.take p++x::L.drop p
theorem jL{p:Nat}{y:Nat×Int}:y∈RD L p x↔y=x\/y∈L:=by
 unfold RD;refine Z (propext bX) (Z (propext bg) ?_)
 conv=>rhs;rw[<-kx p L,bX]
 constructor
 ·rintro(h|h|h)
  ·exact .inr (.inl h)
  ·exact .inl h
  ·exact .inr (.inr h)
 ·rintro(h|h|h)
  ·exact .inr (.inl h)
  ·exact .inl h
  ·exact .inr (.inr h)
theorem eG.put(h:eG t m L){g:Int}{k:Nat}(D:k<10*iN m)(E:sq m g k∉L.map (·.1))(F:∀i,i<k->sq m g i∈L.map (·.1)):
  (t.put (sq m g k)).2<=L.length/\eG (t.put (sq m g k)).1 m (RD L (t.put (sq m g k)).2 (sq m g k,g)):=by
 have R:=JJ h.rise h.place;refine Di (Fi R (sq m g k)) fun z A B=>?_;have s:t.place.size=L.length:=by exact Z (ap gu) (Z h.place (Z (ac ..) rfl))
 refine AA (⟨_,rfl⟩:∃p,ow t.place (sq m g k)=p) fun p u=>?_;rw[u]at z A B;have G:(t.put (sq m g k)).2=p:=u;refine Z G ?_;have d:∀{j:Nat},j∈L.map (·.1)->j∈(RD L p (sq m g k,g)).map (·.1):=fun H=>by
  refine Ad (bn.mp H) fun y f v=>?_;subst v;exact bn.mpr ⟨y,jL.mpr (.inr f),rfl⟩
 have H':has t.dummies (sq m g k)=false:=by unfold has;refine Z h.qR ?_;simp
 have l:∀i x,(L.map (·.1))[i]?=some x->t.place.getD i 0=x/\i<t.place.size:=fun i x e=>by
  rw[<-h.place,fk]at e;exact AA (eI.mp e) fun b ad=>⟨by simp[lj,b,ad],b⟩
 refine⟨by exact le_of_le_of_eq z s,⟨h.mask,?_,?_,?_,fun x a=>?_,fun x a=>?_⟩⟩
 ·show(o2 t.place (ow t.place (sq m g k)) (sq m g k)).toList=_;refine Z (FO ..) (Z u (Z h.place ?_));unfold RD;simp
 ·show(if has t.dummies (sq m g k)then _ else t.dummies)=#[];exact Z H' h.qR
 ·unfold RD;refine Z bP (Z dr (Z kH (Z oI (Z (propext s9) ?_))));have C:=h.rise;rw[<-kx p (L.map (·.1)),s9]at C;refine Di C fun K xs N=>?_;have o:∀x∈(L.map (·.1)).take p,x<sq m g k:=fun x a=>by
   refine AA (d6 a) fun i b=>?_;have r:i<p:=by have:=(av.mp b).1;rw[mf]at this;exact bv this (Nat.min_le_left ..)
   rw[List.getElem?_take_of_lt r]at b;exact Z (ap ((l i x b).1)) (A i r)
  have c:∀x∈(L.map (·.1)).drop p,sq m g k<x:=fun x a=>by
   have w:=oe a;refine AA (d6 a) fun i b=>?_;rw[tN]at b;refine aV (l _ x b) fun e Ab=>?_;have:=B (p+i) (bp p i) Ab;rw[e]at this;exact gE this fun q=>E (q▸w)
  refine⟨K,List.pairwise_cons.mpr ⟨c,xs⟩,fun x a y f=>?_⟩;rcases bg.mp f with rfl|f
  ·exact o x a
  ·exact N x a y f
 ·rcases jL.mp a with rfl|a
  ·exact VO ..
  ·exact h.le x a
 ·rcases jL.mp a with rfl|a
  ·exact⟨k,D,rfl,fun i b=>d (F i b)⟩
  ·obtain⟨n,P,Q,S⟩:=h.reach x a;exact⟨n,P,Q,fun i b=>d (S i b)⟩
theorem PV(a b:Nat)(led:Bool):eG (fresh a b led) 7 []:=⟨rfl,rfl,rfl,.nil,nofun,nofun⟩
noncomputable def o7(m i a:Nat):ma:={j:=i,more:=iq m i-i,i:=i,perturb:=a,dummy:=none}
theorem So(m:Nat)(h:Int):oU m h=o7 m (bits h%(m+1)) (bits h):=rfl
theorem Y0(m:Nat)(p:ma)(a:Nat):∀b,jW m p (a+b)=jW m (jW m p a) b:=by
 intro c;induction c with
 |zero=>
  exact rfl
 |succ b d=>
  show EE m (jW m p (a+b))=EE m _;exact Z (d) rfl
theorem R9(m i a:Nat):∀n,n<=iq m i-i->jW m (o7 m i a) n={j:=i+n,more:=iq m i-i-n,i:=i,perturb:=a,dummy:=none}:=by
 intro b;induction b with
 |zero=>
  intro _;exact rfl
 |succ n c=>
  intro h;show EE m (jW m (o7 m i a) n)=_;refine Z (c (hH h)) ?_;unfold EE;refine Z (if_pos (by exact Nat.zero_lt_sub_of_lt h)) ?_;exact Z (show i+n+1=i+(n+1)by exact dn i n 1) (Z (show iq m i-i-n-1=iq m i-i-(n+1)by exact Nat.sub_sub (iq m i-i) n 1) rfl)
theorem V8(m i a:Nat):jW m (o7 m i a) (iq m i-i+1)=o7 m (leap m i a).1 (leap m i a).2:=by
 show EE m (jW m (o7 m i a) (iq m i-i))=_;refine Z (R9 m i a _ (ai _)) ?_;unfold EE;refine Z (if_neg (by exact Adw)) ?_;rfl
noncomputable def FH(m:Nat):Nat->Nat->Nat->List Nat
 |0,_,_=>[]
 |fuel+1,i,a=>(ej (iq m i+1-i)).map (fun k=>i+k)++FH m fuel (leap m i a).1 (leap m i a).2
theorem Vs(m i:Nat):iq m i<=i+9:=by unfold iq;exact(Decidable.em (i+9<=m)).elim (fun q=>Z (if_pos q) (ai _)) fun q=>Z (if_neg q) (bp i 9)
theorem Ny(m n:Nat):∀i d,(FH m n i d).length<=10*n:=mS (fun i d=>ai _) (fun n e i d=>Z (b:=(FH m (n+1) i d).length) (a:=(iq m i+1-i)+(FH m n (leap m i d).1 (leap m i d).2).length) (List.length_append.trans (Z (ac ..) (Z fo rfl))) (ab (cc (Nat.sub_le_of_le_add (c:=10) (Z (ds 10 i) (cv (Vs m i)))) (e ..)) (ct (ds ..)))) n
theorem QR(m:Nat):∀fuel i a n j,(FH m fuel i a)[n]?=some j->(jW m (o7 m i a) n).j=j:=by
 intro c;induction c with
 |zero=>
  intro _ _ _ _ h;cases h
 |succ fuel d=>
  intro i a n j h;replace h:((ej (iq m i+1-i)).map (fun k=>i+k)++FH m fuel (leap m i a).1 (leap m i a).2)[n]?=some j:=h;have b:=JE m i;by_cases q:n<iq m i+1-i
  ·rw[ij (by simpa using q)]at h;simp[q]at h;exact Z (R9 m i a n (uB q)) h
  ·rw[hY (by simpa using fh q)]at h;simp at h;have:=d (leap m i a).1 (leap m i a).2 _ j h;rw[<-V8,<-Y0]at this;rw[show iq m i-i+1+(n-(iq m i+1-i))=n by exact xj b q]at this;exact this
theorem UI{b c:Type}(f:b->c)(p:c->Bool)(l:List b):(l.map f).find? p=(l.find? fun a=>p (f a)).map f:=by
 induction l with
 |nil=>rfl|cons a l d=>
  refine Z dr (Z (m3) (Z (m3) ?_));cases p (f a)with
  |true=>rfl|false=>exact d
set_option smartUnfolding false in
theorem TG(m:Nat)(o:Array (Option Nat))(n i a:Nat):j3 m o (n+1) i a=gL (motive:=fun b=>Option Nat) ((ej (iq m i+1-i)).find? fun k=>(o.getD (i+k) (some 0)).isNone) (j3 m o n (leap m i a).1 (leap m i a).2) fun k=>some (i+k):=rfl
theorem XE{z x:Option Nat}{i:Nat}:gL (motive:=fun a=>Option Nat) z x (fun k=>some (i+k))=(z.map (fun k=>i+k)).or x:=gL z rfl fun a=>rfl
theorem Yw(m:Nat)(o:Array (Option Nat))(n:Nat):∀i a,j3 m o n i a=(FH m n i a).find? fun j=>(o.getD j (some 0)).isNone:=
 mS (fun i a=>rfl) (fun n b i a=>(TG ..).trans (Eq.trans (Z (b ..) (Z (UI ..) XE)) List.find?_append.symm)) n
def Fs(m:Nat)(h:Int):Bool:=(ej (m+1)).all fun j=>(FH m (iN m) (bits h%(m+1)) (bits h)).contains j
theorem Tn{h:Int}(c:Fs m h=true){j:Nat}(b:j<=m):∃n,n<10*iN m/\sq m h n=j:=by
 have:=(dA.mp c) j (gp.mpr (fR b));have d:j∈FH m (iN m) (bits h%(m+1)) (bits h):=by simpa using this
 obtain⟨n,a⟩:=d6 d;have e:=(av.mp a).1;have f:=Ny m (iN m) (bits h%(m+1)) (bits h);exact⟨n,by exact bv e f,by unfold sq;refine Z (So ..) ?_;exact QR m _ _ _ _ _ a⟩
theorem Ys{b:Type}{p:b->Bool}{l:List b}{x:b}(h:l.find? p=some x):∃n:Nat,l[n]?=some x/\p x=true/\∀i y,i<n->l[i]?=some y->p y=false:=by
 induction l with
 |nil=>cases h
 |cons a l f=>
  rw[m3]at h;cases e:p a with
  |true=>rw[e]at h;cases h;exact⟨0,rfl,e,fun i y c=>absurd c (im _)⟩
  |false=>
   rw[e]at h;obtain⟨n,g,j,k⟩:=f h;refine⟨n+1,g,j,fun i y c d=>?_⟩;cases i with
   |zero=>cases d;exact e
   |succ i=>exact k i y (Nat.succ_lt_succ_iff.mp c) d
variable{owner:Array (Option Nat)}
theorem TF{h:Int}(c:Fs m h=true){j:Nat}(o:j<=m)(e:(owner.getD j (some 0)).isNone=true):
  ∃k,k<10*iN m/\j3 m owner (iN m) (bits h%(m+1)) (bits h)=some (sq m h k)/\(owner.getD (sq m h k) (some 0)).isNone=true/\∀i,i<k->(owner.getD (sq m h i) (some 0)).isNone=false:=by
 refine Z (Yw ..) ?_;have:=(dA.mp c) j (gp.mpr (fR o));have p:j∈FH m (iN m) (bits h%(m+1)) (bits h):=by simpa using this
 cases q:(FH m (iN m) (bits h%(m+1)) (bits h)).find? fun j=>(owner.getD j (some 0)).isNone with
 |none=>exact absurd e (by have:=List.find?_eq_none.mp q j p;exact this)|some x=>
  obtain⟨n,b,r,s⟩:=Ys q;have g:=(av.mp b).1;have t:=Ny m (iN m) (bits h%(m+1)) (bits h);have d:∀i y,(FH m (iN m) (bits h%(m+1)) (bits h))[i]?=some y->sq m h i=y:=fun i y a=>by unfold sq;exact Z (So ..) (QR m _ _ _ _ _ a)
  refine⟨n,by exact bv g t,by exact Z (d n x b) rfl,by refine Z (d n x b) ?_;exact r,fun i l=>?_⟩;have f:=ee l g;have a:=ck f;exact Z (d i _ a) (s i _ l a)
theorem Wh:∀(k:Nat) (l:List Nat),l.Nodup->(∀x∈l,x<k)->l.length<=k:=by
 intro e;induction e with
 |zero=>
  intro l _ h;cases l with
  |nil=>exact ai _|cons x l=>exact absurd (h x (.head _)) (im _)
 |succ k c=>
  intro l b h;by_cases q:k∈l
  ·have d:=c (l.erase k) (b.erase k) fun x a=>by
    refine aV ((b.mem_erase_iff).mp a) fun f g=>?_;have:=h x g;exact Zp f this
   rw[sd q]at d;exact Nat.le_add_of_sub_le d
  ·have:=c l b fun x a=>by
    have:=h x a;have:x≠k:=fun z=>q (z▸a);exact Zp this (by assumption)
   exact hW this
structure jx(m:Nat)(hs:List Int)(owner:Array (Option Nat)):Prop where
 size:owner.size=m+1
 lt:∀(j q:Nat),owner[j]?=some (some q)->q<hs.length
 has:∀q,q<hs.length->∃j:Nat,owner[j]?=some (some q)
 inj:∀(j j' q:Nat),owner[j]?=some (some q)->owner[j']?=some (some q)->j=j'
 reach:∀(j q:Nat),owner[j]?=some (some q)->∃h,hs[q]?=some h/\∃n,n<10*iN m/\sq m h n=j/\∀i,i<n->∃q',owner[sq m h i]?=some (some q')
theorem jx.some_of{b:List Int}(o:jx m b owner){j:Nat}(c:j<=m)(e:(owner.getD j (some 0)).isNone=false):∃q,owner[j]?=some (some q):=by
 have a:j<owner.size:=Z o.size (fR c);have:owner.getD j (some 0)=owner[j]:=by simp[lj,a]
 rw[this]at e;cases q:owner[j]with
 |none=>rw[q]at e;cases e
 |some v=>exact⟨v,by exact Z (gx a) (Z q rfl)⟩
theorem jx.room{d:List Int}(o:jx m d owner)(u:d.length<=m):∃j,j<=m/\(owner.getD j (some 0)).isNone=true:=by
 apply k9
 intro v;have f:=fun j c=>o.some_of c (by
  cases e:(owner.getD j (some 0)).isNone with
  |false=>rfl|true=>exact absurd ⟨j,c,e⟩ v)
 have g:∀j,j<=m->owner[j]?=some (some ((owner.getD j none).getD 0)):=fun j c=>by
  refine AA (f j c) fun q r=>AA (eI.mp r) fun h e=>Z r ?_;simp[lj,h,e]
 have s:=Wh d.length ((ej (m+1)).map fun j=>(owner.getD j none).getD 0) (by
  rewrite[List.Nodup];refine Z (propext List.pairwise_map) ?_;refine List.Pairwise.imp_of_mem (fun{a b} w y i=>?_) (so);have k:=gp.mp w;have l:=gp.mp y;intro q;have t:=g a (de k);have z:=g b (de l);rw[q]at t;have:=o.inj a b _ t z;exact uO i this) (fun x n=>by
  refine Ad (bn.mp n) fun j c p=>?_;subst p;have:=gp.mp c;exact o.lt j _ (g j (de this)))
 simp at s;exact Zr u s
theorem jx.step{f:List Int}(o:jx m f owner)(B:f.length<=m){h:Int}(c:Fs m h=true):
  ∃j,j3 m owner (iN m) (bits h%(m+1)) (bits h)=some j/\jx m (f++[h]) (owner.setIfInBounds j (some f.length)):=by
 refine Ad (o.room B) fun Q s C=>Ir (TF c s C) fun k D E F G=>?_;have r:sq m h k<owner.size:=by refine Z o.size ?_;have:=VO m h k;exact fR this
 have l:∀q,owner[sq m h k]?≠some (some q):=fun q e=>by
  refine AA (eI.mp e) fun Y t=>?_;simp[lj,r,t]at F
 have d:∀j q,(owner.setIfInBounds (sq m h k) (some f.length))[j]?=some (some q)↔(j=sq m h k/\q=f.length)\/(owner[j]?=some (some q)):=fun j q=>by
  refine Z (Array.getElem?_setIfInBounds) ?_;by_cases z:sq m h k=j
  ·subst z;refine Z (if_pos rfl) (Z (if_pos r) ?_);constructor
   ·intro e;cases e;exact .inl ⟨rfl,rfl⟩
   ·rintro(⟨_,rfl⟩|e)
    ·rfl
    ·exact absurd e (l q)
  ·exact Z (if_neg z) ⟨.inr,fun e=>e.resolve_left fun w=>z w.1.symm⟩
 refine⟨_,E,⟨by simp[o.size],fun j q e=>?_,fun q x=>?_,fun j y q e t=>?_,fun j q e=>?_⟩⟩
 ·refine Z ba (Z h7 ?_);rcases(d j q).mp e with⟨_,rfl⟩|e
  ·exact Nat.lt_add_one f.length
  ·have:=o.lt j q e;exact Nat.lt_add_right 1 this
 ·rw[ba,h7]at x;by_cases z:q<f.length
  ·exact AA (o.has q z) fun j H=>⟨j,(d j q).mpr (.inr H)⟩
  ·exact⟨_,(d _ q).mpr (.inl ⟨rfl,by exact Nat.eq_of_lt_succ_of_not_lt x z⟩)⟩
 ·rcases(d j q).mp e with⟨H',ad⟩|a<;>rcases(d y q).mp t with⟨K,L⟩|b
  ·exact Z H' (Z K rfl)
  ·have:=o.lt _ _ b;exact W8 ad this
  ·have:=o.lt _ _ a;exact W8 L this
  ·exact o.inj j y q a b
 ·rcases(d j q).mp e with⟨rfl,rfl⟩|e
  ·exact⟨h,by simp,k,D,rfl,fun i u=>(AA (o.some_of (VO m h i) (G i u)) fun v p=>⟨v,(d _ _).mpr (.inr p)⟩)⟩
  ·refine Ad (o.reach j q e) fun g A xs=>Az xs fun n N Ab P=>⟨g,by refine Z (ij (by have:=(av.mp A).1;exact this)) ?_;exact A,n,N,Ab,fun i u=>?_⟩
   exact AA (P i u) fun v p=>⟨v,(d _ _).mpr (.inr p)⟩
theorem TJ(m:Nat):jx m [] (Array.replicate (m+1) none):=by
 refine⟨by simp,fun j q e=>?_,fun q a=>absurd a (im _),fun j b q e=>?_,fun j q e=>?_⟩ <;>
 ·exfalso;rw[Array.getElem?_replicate]at e;split at e<;>cases e
theorem WP(m:Nat):∀(rest pre:List Int) (owner:Array (Option Nat)),jx m pre owner->(∀h∈rest,Fs m h=true)->pre.length+rest.length<=m+1 ->
  ∃o',rest.foldl (fun acc h=>do
   let(owner,k) <-acc
   let j <-j3 m owner (iN m) (bits h%(m+1)) (bits h)
   pure (owner.setIfInBounds j (some k),k+1)) (some (owner,pre.length))=some (o',(pre++rest).length)/\jx m (pre++rest) o':=by
 intro z0;induction z0 with
 |nil=>
  intro pre owner o _ _;exact⟨owner,by refine Z (aS ..) ?_;rfl,by refine Z (aS ..) ?_;exact o⟩
 |cons h rest ih=>
  intro pre owner o hc hz;rw[d4]at hz;refine Ad (o.step (yx hz) (hc h (.head _))) fun j h1 h2=>?_;have:=ih (pre++[h]) _ h2 (fun g hg=>hc g (.tail _ hg)) (Z ba (Z h7 (uI hz)));rw[ci,sD]at this;refine Ad this fun o' e1 e2=>⟨o',(Z qB (Z (ap e1) ?_)),e2⟩
  congr 1;show(do
   let j <-j3 m owner (iN m) (bits h%(m+1)) (bits h)
   pure (owner.setIfInBounds j (some pre.length),pre.length+1))=_
  refine Z h1 (Z ba (Z h7 ?_));rfl
theorem QM{hs:Array Int}(hc:∀h∈hs.toList,Fs m h=true)(hz:hs.size<=m+1):∃o,layClean m hs=some o/\jx m hs.toList o:=by
 refine Ad (WP m hs.toList [] _ (TJ m) hc (by simpa using hz)) fun o e1 e2=>⟨o,?_,e2⟩
 unfold layClean;refine Z (ap (Array.foldl_toList ..)) ?_;rw[kQ]at e1;refine Z e1 ?_;rfl
def prs(o:Array (Option Nat))(n:Nat):List (Nat×Nat):=(ej n).filterMap fun j=>(o.getD j none).map (j,·)
theorem XN{o:Array (Option Nat)}{n:Nat}(c:o.size=n){x:Nat×Nat}:x∈prs o n↔o[x.1]?=some (some x.2):=by
 constructor
 ·intro h;refine Ad (List.mem_filterMap.mp h) fun j b e=>Ad (hM.mp e) fun q d f=>Z (ap f) ?_;have a:=c▸gp.mp b;exact(gx a).trans (congrArg some ((dif_pos a).symm.trans d))
 ·intro h;exact AA (eI.mp h) fun b e=>List.mem_filterMap.mpr ⟨x.1,gp.mpr (c▸b),by refine Z (show o.getD x.1 none=some x.2 from(dif_pos b).trans e) ?_;rfl⟩
theorem Vp{a x:Nat}:∀{r:Option Nat},(r.map (a,·)).map (·.1)=some x->x=a
 |some _,h=>(ag h).symm
theorem PK{o:Array (Option Nat)}{n:Nat}:((prs o n).map (·.1)).Pairwise (· < ·):=Z (tF) (Z (propext List.pairwise_filterMap) ((so).imp fun a x b y c=>Vp b▸Vp c▸a))
theorem XR{f w:Nat}{led d:Bool}{k:Array Int}(D:∀h∈k.toList,Fs m h=true)(E:k.size<=m+1):
  ∃t c,laid m f w led d k=some (t,c)/\t.led=led/\t.plain=d/\t.moves=w/\t.finger=f/\c.toList.Perm (ej k.size) /\
   ∃L,eG t m L/\L.map (·.2)=c.toList.map fun q=>k.getD q 0:=by
 refine Ad (QM D E) fun o e Ab=>?_;have xs:=fun x=>XN Ab.size (x:=x);have R:=i9.mp (PK (o:=o) (n:=m+1));unfold laid;refine Z e ?_;refine⟨_,_,rfl,rfl,rfl,rfl,rfl,(jI (l₁:=(prs o (m+1)).map (·.2)) (i9.mpr (R.imp_of_mem fun{a b} F G r q=>dL r (Ab.inj _ _ _ ((xs a).mp F) (q▸(xs b).mp G)))) List.nodup_range).mpr fun a=>?_,
  (prs o (m+1)).map (fun x=>(x.1,k.getD x.2 0)),⟨rfl,(f8 (l:=prs o (m+1)) (f:=fun x=>(x.1,k.getD x.2 0)) (g:=(·.1))).symm,rfl,?_,fun x p=>?_,fun x p=>?_⟩,(f8 ..).trans (f8 (l:=prs o (m+1)) (f:=(·.2)) (g:=fun q=>k.getD q 0)).symm⟩
 ·exact Z (propext bn) (Z (propext List.mem_range) ⟨fun z=>Ad z fun x p H=>H▸Ab.lt _ _ ((xs x).mp p),fun z=>AA (Ab.has a z) fun j H'=>⟨(j,a),(xs _).mpr H',rfl⟩⟩)
 ·exact Z f8 PK
 ·exact Ad (bn.mp p) fun y s u=>Z (ap u) (de (gd (eI.mp ((xs y).mp s)).1 Ab.size))
 ·refine Ad (bn.mp p) fun y s u=>Ad (Ab.reach _ _ ((xs y).mp s)) fun h A ad=>Az ad fun n K N P=>?_;rw[fk]at A;have B:k.getD y.2 0=h:=AA (eI.mp A) fun Q e=>(dif_pos Q).trans e;exact Z (ap u) ⟨n,K,(congrArg (sq m · n) B).trans N,fun i S=>(AA (P i S) fun C v=>Z f8 (bn.mpr ⟨(_,C),(xs (_,C)).mpr v,(congrArg (sq m · i) B).symm⟩))⟩
noncomputable def kh(x:Nat×Nat):Int:=reduceHash (Builtin.Tuple.tupleHashOf [hashInt x.1,hashInt x.2])
def dX:List (Nat×Nat):=(ej 5).flatMap fun a=>(ej 7).map fun s=>(a,s)
theorem L3{a s:Nat}(b:a<5)(c:s<7):(a,s)∈dX:=List.mem_flatMap.mpr ⟨a,gp.mpr b,bn.mpr ⟨s,gp.mpr c,rfl⟩⟩
theorem X4:dX.all (fun x=>Fs 7 (kh x))=true:=by decide +kernel
theorem QE:dX.all (fun x=>Fs 31 (kh x))=true:=by decide +kernel
theorem UE:(dX.map kh).Nodup:=by decide +kernel
theorem Wx{x y:Nat×Nat}(h:x∈dX)(i:y∈dX)(e:kh x=kh y):x=y:=by
 have d:∀l:List (Nat×Nat),(l.map kh).Nodup->x∈l->y∈l->x=y:=by
  intro l c f g;induction l with
  |nil=>cases f
  |cons z l j=>
   rw[dr,cr]at c;rcases bg.mp f with b|b
   ·rcases bg.mp g with a|a
    ·exact b.trans a.symm
    ·exact absurd (bn.mpr ⟨y,a,e.symm.trans (congrArg kh b)⟩) c.1
   ·rcases bg.mp g with a|a
    ·exact absurd (bn.mpr ⟨x,b,e.trans (congrArg kh a)⟩) c.1
    ·exact j c.2 b a
 exact d _ UE h i
end
end Mine.Lake
end
section
open PySem PySem.SetTable PySem.W PySem.Calls PyProof.Rows
set_option tactic.hygienic false
namespace Mine.Lake
section
variable{prog:om}{w:nK}{A:iL}{E:bm->cE->Prop}{s:cE}
abbrev tO(x:Nat×Nat):List Int:=[(x.1:Int),(x.2:Int)]
theorem yS(x:Nat×Nat):tupleKeyHash (intKind prog w) (tO x)=kh x:=rfl
def cH(h:Heap)(p:Addr)(x:Nat×Nat):Prop:=∃o t u n,h.get? p=some o/\o.cls=.type "tuple"/\o.data=.seq #[.int x.1 t,.int x.2 u] n
variable{p:Addr}{x:Nat×Nat}
theorem cH.key{h:Heap}(k:cH h p x):IsTupleKey (intKind prog w) h (tO x) p:=GF k fun o t u n a b c=>⟨o,_,n,a,b,c,.cons (intKind_is _ _ _ _) (.cons (intKind_is _ _ _ _) .nil)⟩
variable{Q:Bool->cE->Prop}
theorem Oz(k:cH s.heap p x)(h:Q true s):dy (eA prog w) A (hashByValue 8 (.ref p)) Q E s:=by
 have hT:=(k.key (prog:=prog) (w:=w)).typeIs;refine GF k fun o t u n h1 h2 h3=>?_;unfold hashByValue;refine af (ly hT F.slot_tuple_hash.lookup ?_);dsimp only;refine af (wpAny_seqItems h1 h3 (af ?_));refine Z (ap tz) (rk _ (fun rest r s'=>r.1=none/\s'=s/\∀v∈rest,hashByValue 7 v=pure true) _ ?_ ?_ _ _ ⟨rfl,rfl,?_⟩)
 ·rintro v rest r s' ⟨hr,rfl,hall⟩;exact Z (hall v lp) (af (aE (Z (if_neg (dd rfl:¬(!true)=true)) (aE ⟨rfl,rfl,fun u hu'=>hall u (kL _ hu')⟩))))
 ·rintro⟨r1,r2⟩ s' ⟨hr,rfl,_⟩;obtain rfl:=hr;exact aE h
 ·intro v hv;rcases bg.mp hv with rfl|hv
  ·rfl
  ·rcases bg.mp hv with rfl|hv
   ·rfl
   ·cases hv
set_option smartUnfolding false in
theorem Mc(k:cH s.heap p x)(h:Q false s):dy (eA prog w) A (ofAClassStatement 8 (.ref p)) Q E s:=by
 have hT:=(k.key (prog:=prog) (w:=w)).typeIs;refine GF k fun o t u n h1 h2 h3=>af (m:=typeOf (.ref p)) (wpAny_typeOf hT ?_);dsimp only;refine Z (if_pos (dd rfl:("tuple"=="tuple")=true)) (af (aE (Z (if_neg (dd rfl:¬(!true)=true)) (af (wpAny_seqItems h1 h3 (af ?_))))));refine Z (ap tz) (rk _ (fun rest r s'=>r.1=none/\s'=s/\∀v∈rest,ofAClassStatement 7 v=pure false) _ ?_ ?_ _ _ ⟨rfl,rfl,?_⟩)
 ·rintro v rest r s' ⟨hr,rfl,hall⟩;exact af (h8 (hall v lp) (Z (if_neg ax) (aE ⟨rfl,rfl,fun u hu'=>hall u (kL _ hu')⟩)))
 ·rintro⟨r1,r2⟩ s' ⟨hr,rfl,_⟩;obtain rfl:=hr;exact aE h
 ·intro v hv;rcases bg.mp hv with rfl|hv
  ·rfl
  ·rcases bg.mp hv with rfl|hv
   ·rfl
   ·cases hv
theorem OZ{ys:List bm}(k:cH s.heap p x)(i:∀y∈ys,∃q z,y=.ref q/\cH s.heap q z)(h:Q false s):dy (eA prog w) A (searchCouldBeSeen (.ref p) ys) Q E s:=by
 unfold searchCouldBeSeen;refine af (rk _ (fun b r d=>r.1=none/\d=s/\∀v∈b,v∈ys) _ ?_ ?_ _ _ ⟨rfl,rfl,fun t q=>q⟩)
 ·rintro v b r d ⟨f,rfl,c⟩;obtain⟨q,z,rfl,g⟩:=i v (c v lp);have a:=fun u e=>c u (kL _ e);show dy _ _ (if((p==q)||false)=true then _ else _) _ _ _;cases j:(p==q)with
  |true=>exact aE ⟨rfl,rfl,a⟩|false=>
   exact Z (if_neg (dd rfl)) (af (t9 (k.key) (Z (if_neg (dd rfl)) (af (t9 (g.key) (Z (if_neg (dd rfl)) (af (Mc k (Z (if_neg ax) (af (Mc g (Z (if_neg ax) (aE ⟨rfl,rfl,a⟩)))))))))))))
 ·rintro⟨l,m⟩ d ⟨f,rfl,_⟩;obtain rfl:=f;exact aE h
end
end Mine.Lake
end
section
open PySem PySem.SetTable PySem.W PySem.Calls PyProof.Rows
namespace Mine.Lake
def sY(x:(Nat×Nat)×Addr):Int×bm:=(kh x.1,.ref x.2)
structure cY(led:Bool)(kps:List ((Nat×Nat)×Addr))(es:Array (Int×bm))(t:hX)(m:Nat)(L:List (Nat×Int)):Prop where
 es:es.toList=kps.map sY
 tab:eG t m L
 hs:L.map (·.2)=kps.map fun x=>kh x.1
 plain:t.plain=true
 led:t.led=led
 dX:∀x∈kps,x.1∈dX
 nd:(kps.map (·.1)).Nodup
section
variable{led:Bool}{kps:List ((Nat×Nat)×Addr)}{es:Array (Int×bm)}{t:hX}{m:Nat}{L:List (Nat×Int)}
theorem cY.len(h:cY led kps es t m L):L.length=kps.length:=by
 have:=congrArg oi h.hs;rwa [ac,ac]at this
theorem cY.size(h:cY led kps es t m L):es.size=kps.length:=Z (ap gu) (Z h.es (Z (ac ..) rfl))
theorem cY.lH(h:cY led kps es t m L):t.place.size=kps.length:=Z (ap gu) (Z h.tab.place (Z (ac ..) (Z h.len rfl)))
theorem cY.fill(h:cY led kps es t m L):t.fill=kps.length:=by
 unfold SetTable.fill;refine Z h.lH (Z h.tab.qR ?_);rfl
theorem cY.fits(h:cY led kps es t m L)(a:kps.length<=m):t.fits es.size=true:=by
 unfold SetTable.fits;refine Z h.fill (Z h.lH (Z h.size (Z h.tab.mask ?_)));simpa using a
theorem cY.hash(h:cY led kps es t m L)(i:Nat)(x:Nat×Int)(e:L[i]?=some x):(es[i]?.map (·.1)).getD 0=x.2:=by
 have a:(L.map (·.2))[i]?=some x.2:=by refine Z (b9) (Z e ?_);rfl
 rw[h.hs,b9]at a;refine Z (ap (fk)) (Z h.es (Z (b9) ?_));cases q:kps[i]? with
 |none=>rw[q]at a;cases a
 |some y=>
  rw[q,gv]at a;rw[gv,gv,Option.getD_some];exact ag a
theorem cY.entry(h:cY led kps es t m L){i j:Nat}{g:Int}(e:L[i]?=some (j,g)):∃y,kps[i]?=some y/\kh y.1=g/\es[i]?=some (g,.ref y.2):=by
 have a:(L.map (·.2))[i]?=some g:=by refine Z (b9) (Z e ?_);rfl
 rw[h.hs,b9]at a;cases q:kps[i]? with
 |none=>rw[q]at a;cases a
 |some y=>
  rw[q,gv]at a;have b:=ag a;refine⟨y,rfl,b,(Z (ap (fk)) (Z h.es (Z (b9) (Z q (Z (ap b) (Z (gv ..) ?_))))))⟩;rfl
theorem Xt{b:Type}[DecidableEq b]:∀{l l':List b},l.Nodup->(∀x∈l,x∈l')->l.length<=l'.length:=by
 intro f;induction f with
 |nil=>
  intro _ _ _;exact bq _
 |cons a l g=>
  intro l' i h;refine aV (cr.mp i) fun j k=>?_;have c:=h a (.head _);have:=g (l':=l'.erase a) k fun x d=>(List.mem_erase_of_ne fun e=>j (by refine Z (ap e) ?_;exact d)).mpr (h x (.tail _ d));rw[sd c]at this;exact Nat.add_le_of_le_sub (List.length_pos_of_mem c) this
theorem WH{ps:List Nat}(h:ps.length<=m):∃j,j<=m/\j∉ps:=by
 apply k9
 intro z;have:=Xt List.nodup_range fun x a=>k9 fun n=>z ⟨x,de (gp.mp a),n⟩;rw[fo]at this;exact Zr h this
variable{prog:om}{w:nK}{A:iL}{E:bm->cE->Prop}{s:cE}{a p:Addr}{k:Nat×Nat}{o:Obj}{ep:Nat}
theorem Qv(h:m=7\/m=31)(e:t.mask=m):t.gaveWay=false:=by
 unfold SetTable.gaveWay;refine Z e ?_;rcases h with rfl|rfl<;>rfl
theorem QL{Q:SetFound->cE->Prop}{fuel:Nat}(v:s.heap.get? a=some o)(x:o.data=.set es ep t)(T:cY led kps es t m L)(l:m=7\/m=31)(r:kps.length<=m)(b:k∈Mine.Lake.dX)(z:k∉kps.map (·.1))
  (h:∀n,n<10*iN m->sq m (kh k) n∉L.map (·.1)->(∀i,i<n->sq m (kh k) i∈L.map (·.1))->Q (.free (sq m (kh k) n) false) s) :
  dy (eA prog w) A (setSearchFrom a (.ref p) (kh k) true (fuel+1) none) Q E s:=by
 refine af (f7 v x (T.fits r) (eh (fun c=>absurd ((Qv l T.tab.mask).symm.trans c) ax) fun Y=>?_));have B:kh k∉L.map (·.2):=by
  refine Z T.hs ?_;intro q;exact Ad (bn.mp q) fun y u e=>z (bn.mpr ⟨y,u,Wx (T.dX _ u) b e⟩)
 have C:Fs m (kh k)=true:=by
  rcases l with rfl|rfl
  ·exact dA.mp X4 k b
  ·exact dA.mp QE k b
 refine Ad (WH (ps:=L.map (·.1)) (m:=m) (Z (ac ..) (Z T.len r))) fun j D d=>?_;refine Ad (Tn C D) fun n f g=>Ir (T.tab.free T.hash B f (Z g d)) fun F G H H' ad=>?_;refine H.symm▸aE (h F G H' ad)
theorem N6{Q:SetFound->cE->Prop}{fuel:Nat}(ad:A.units<kB)(f:s.heap.get? a=some o)(g:o.data=.set es ep t)(T:cY led kps es t m L)(K:m=7\/m=31)(l:kps.length<=m)(xs:k∈kps.map (·.1))
  (C:cH s.heap p k) (b:∀x∈kps,cH s.heap x.2 x.1) (h:Q (.there none) s) :
  dy (eA prog w) A (setSearchFrom a (.ref p) (kh k) true (fuel+1) none) Q E s:=by
 refine af (f7 f g (T.fits l) (eh (fun u=>absurd ((Qv K T.tab.mask).symm.trans u) ax) fun Y=>Ad (bn.mp xs) fun y e D=>?_));obtain⟨x,N,Ab⟩:∃x,x∈L/\x.2=kh k:=by
  have:kh k∈L.map (·.2):=Z T.hs (bn.mpr ⟨y,e,by exact Z D rfl⟩);exact bn.mp this
 obtain⟨j,i,ws,F,G⟩:=T.tab.found T.hash N;rw[Ab]at F G;obtain⟨z,P,S,AH⟩:=T.entry G;have c:=ay P;have aj:z.1=k:=Wx (T.dX _ c) (D▸T.dX _ e) S;have H:=b z c;rw[aj]at H;have d:∀{R:Bool->cE->Prop},R true s->dy (eA prog w) A (mx [gi z.2] (eqBool (.ref z.2) (.ref p))) R E s:=fun r=>eT (wpAny_eqBool_tuple ad (H.key) (C.key) (Z (decide_eq_true rfl) r));refine F.symm▸?_;dsimp only;refine AH.symm▸eh (fun Y=>af (OZ C (fun y e=>?_) (eh (fun h=>absurd h ax) fun Y=>?_))) fun Y=>?_
 ·refine Ad (bn.mp e) fun q H' W=>?_;rw[Array.toList_filter,T.es]at H';exact Ad (bn.mp (fy.mp H').1) fun v B X=>⟨v.2,v.1,by refine Z (ap W) (Z (ap X) ?_);rfl,b v B⟩
 ·exact af (d (af (f7 f g (T.fits l) (eh (fun Y=>aE h) fun n=>absurd rfl n))))
 ·exact af (d (af (f7 f g (T.fits l) (eh (fun Y=>aE h) fun n=>absurd rfl n))))
end
end Mine.Lake
end
section
open PySem PySem.SetTable PySem.W PySem.Calls PyProof.Rows
set_option tactic.hygienic false
namespace Mine.Lake
noncomputable def NU(es:Array (Int×bm))(a:Nat)(t:hX):Obj:={cls:=.type "set",dict:=none,data:=.set es a t,slots:=#[]}
def pH(m n:Nat):Prop:=(m=7/\n<=4)\/(m=31/\n<=18)
structure dD(led:Bool)(h:Heap)(a:Addr)(kps:List ((Nat×Nat)×Addr)):Prop where
 ex:∃es ep t m L,h.get? a=some (NU es ep t)/\cY led kps es t m L/\pH m kps.length
theorem pH.mask{m n:Nat}(h:pH m n):m=7\/m=31:=h.imp (·.1) (·.1)
theorem pH.le{m n:Nat}(h:pH m n):n<=m:=by rcases h with⟨rfl,h⟩|⟨rfl,h⟩<;>lia
section
variable{led:Bool}{kps:List ((Nat×Nat)×Addr)}{es:Array (Int×bm)}{t:hX}{m:Nat}{L:List (Nat×Int)}{k:Nat×Nat}{p:Addr}
theorem cY.put(T:cY led kps es t m L)(f:k∈Mine.Lake.dX)(g:k∉kps.map (·.1)){n:Nat}(h:n<10*iN m)(j:sq m (kh k) n∉L.map (·.1))(l:∀i,i<n->sq m (kh k) i∈L.map (·.1)):
  ∃b L',b.Perm ((k,p)::kps)/\cY led b (o2 es (t.put (sq m (kh k) n)).2 (kh k,.ref p)) (t.put (sq m (kh k) n)).1 m L':=by
 refine aV (T.tab.put h j l) fun o e=>AA (⟨_,rfl⟩:∃q,(t.put (sq m (kh k) n)).2=q) fun q r=>?_;rw[r]at o e ⊢;have c:(kps.take q++(k,p)::kps.drop q).Perm ((k,p)::kps):=by
  have:=List.perm_middle (a:=(k,p)) (l₁:=kps.take q) (l₂:=kps.drop q);rwa [kx]at this
 refine⟨kps.take q++(k,p)::kps.drop q,_,c,?_,e,?_,T.plain,T.led,fun x d=>?_,?_⟩
 ·refine Z (FO ..) (Z T.es (Z bP (Z dr (Z kH (Z oI ?_)))));rfl
 ·unfold RD;exact Z bP (Z dr (Z kH (Z oI (Z T.hs (Z bP (Z dr (Z kH (Z oI rfl))))))))
 ·rcases bg.mp (c.mem_iff.mp d)with rfl|d
  ·exact f
  ·exact T.dX x d
 ·exact(c.map (·.1)).nodup_iff.mpr (cr.mpr ⟨g,T.nd⟩)
theorem wD{b c:Type}{f:b->c}{l:List b}{z:c}:∀{a:List Nat},(∀q∈a,q<l.length)->(a.filterMap fun q=>l[q]?).map f=a.map fun q=>(l.map f).getD q z:=by
 intro d;induction d with
 |nil=>
  intro _;exact rfl
 |cons q a g=>
  intro h;have i:=h q (.head _);have e:=ck i;refine Z k8 (Z e (Z dr (Z dr ?_)));rewrite[g fun j k=>h j (.tail _ k)];refine Z (eJ) (Z (b9) (Z e ?_));rfl
theorem U7{b:Type}(l:List b):(ej l.length).filterMap (fun q=>l[q]?)=l:=by
 induction l with
 |nil=>rfl|cons a l c=>
  refine Z d4 (Z sm (Z k8 ?_));exact Z List.filterMap_map (congrArg (a::·) c)
theorem cY.relaid(T:cY led kps es t 7 L)(o:kps.length=5):
  ∃t' a b L',t.relaid (es.map (·.1)) 20=some (t',a)/\b.Perm kps/\(a.filterMap (es[·]?)).size=es.size/\cY led b (a.filterMap (es[·]?)) t' 31 L':=by
 have k:(es.map (·.1)).toList=kps.map fun x=>kh x.1:=by refine Z Array.toList_map (Z T.es (Z f8 ?_));rfl
 have l:(es.map (·.1)).size=kps.length:=by refine Z Array.size_map ?_;exact T.size
 obtain⟨t',a,e,p,r,v,w,g,L',s,u⟩:=XR (fun h m=>by
  rw[k]at m;obtain⟨x,i,rfl⟩:=bn.mp m;exact dA.mp QE _ (T.dX x i)) (by refine Z l ?_;exact vP o)
 rw[l]at g;have j:∀q∈a.toList,q<kps.length:=fun q n=>gp.mp (g.mem_iff.mp n);have d:(a.toList.filterMap fun q=>kps[q]?).Perm kps:=by
  have:=g.filterMap fun q=>kps[q]?;rwa [U7]at this
 have c:(a.filterMap (es[·]?)).toList=(a.toList.filterMap fun q=>kps[q]?).map sY:=by
  exact Z Array.toList_filterMap (Z tF (congrArg (fun f=>a.toList.filterMap f) (funext fun q=>Z (ap (fk)) (Z T.es (Z (b9) rfl)))))
 refine⟨t',a,_,L',e,d,?_,c,s,?_,r.trans T.plain,p.trans T.led,fun x i=>T.dX x (d.mem_iff.mp i),(d.map (·.1)).nodup_iff.mpr T.nd⟩
 ·exact Z (ap gu) (Z c (Z (ac ..) (Z d.length_eq (Z T.size rfl))))
 ·rw[u,wD (z:=0) j];refine fz fun q n=>?_;rw[<-k];simp
variable{prog:om}{w:nK}{A:iL}{E:bm->cE->Prop}{s:cE}{a:Addr}
theorem Nq{h:Heap}{es':Array (Int×bm)}{b:Nat}{t':hX}(e:h.get? a=some (NU es b t)):(h.update a (Obj.putSet es' t')).get? a=some (NU es' (b+1) t'):=by
 rw[f5 _ e (by rw[putSet_of es' t' rfl];rfl),putSet_of es' t' rfl];rfl
theorem Aao{ep:Nat}{Q:Unit->cE->Prop}(ho:s.heap.get? a=some (NU es ep t))(T:cY led kps es t 7 L)(h5:kps.length=5)
  (q:∀es2 t2 kps2 L2,kps2.Perm kps->cY led kps2 es2 t2 31 L2->Q () {s with heap:=s.heap.update a (Obj.putSet es2 t2)}):dy (eA prog w) A (setRelay a 20) Q E s:=by
 obtain⟨t2,order,kps2,L2,r1,r2,r3,r4⟩:=T.relaid h5;refine af (f7 ho rfl (T.fits (by refine Z h5 ?_;decide)) (eh (fun hab=>absurd hab (by refine Z rS ?_;decide)) fun z=>af (h8 (a:=(order.filterMap (es[·]?),t2)) ?_ (wpAny_storeSet_of ho rfl (q _ _ _ _ r2 r4) ?_))))
 ·refine r1.symm▸?_;show(do if((order.filterMap (es[·]?)).size != es.size)=true then unsupported "internal:set-table-lost-an-element" else pure (order.filterMap (es[·]?),t2))=_;refine Z r3 (Z (bne_self_eq_false ..) ?_);rfl
 ·exact Z r4.size (Z r2.length_eq (Z h5 (Z rS (n9 rfl))))
theorem cY.full(T:cY led kps es t m L):t.tooFull=decide (m*3<=kps.length*5):=by
 unfold SetTable.tooFull;exact Z T.fill (Z T.tab.mask rfl)
theorem UY{Q:Bool->cE->Prop}(hu:A.units<kB)(S:dD led s.heap a kps)(hr:kps.length<18)(hk:k∈Mine.Lake.dX)(hp:cH s.heap p k)(hel:∀x∈kps,cH s.heap x.2 x.1)
  (h:∀b h' kps',gI a s.heap h'->dD led h' a kps'->kps'.Perm (if k∈kps.map (·.1)then kps else(k,p)::kps)->Q b {s with heap:=h'}) :
  dy (eA prog w) A (setAddHashed a (.ref p) (kh k)) Q E s:=by
 obtain⟨es,ep,t,m,L,ho,T,hz⟩:=S.ex;refine eT (af (f7 ho rfl (T.fits hz.le) (eh (fun hab=>absurd hab ax) fun y=>?_)));by_cases hn:k∈kps.map (·.1)
 ·rw[if_pos hn]at h;exact af (N6 hu ho rfl T hz.mask hz.le hn hp hel (aE (h false s.heap kps (ke a _) S (p9 _))))
 ·rw[if_neg hn]at h;refine af (QL ho rfl T hz.mask hz.le hk hn fun n h0 h1 h2=>af (f7 ho rfl (T.fits hz.le) ?_));obtain⟨kps',L',q1,T'⟩:=T.put hk hn h0 h1 h2;have hl:kps'.length=kps.length+1:=q1.length_eq;dsimp only;generalize t.put (sq m (kh k) n)=tp at T' ⊢;obtain⟨t1,pos⟩:=tp;have hsz:(o2 es pos (kh k,gi p)).size=kps.length+1:=T'.size.trans hl;have g1:=Nq (es':=o2 es pos (kh k,gi p)) (t':=t1) ho;have full:=T'.full;refine eh (fun y=>af (Oz hp (af (wpAny_storeSet_of ho rfl ?_ (Z hsz (Z rS (ab (l4 hr) (n9 rfl)))))))) fun z=>absurd T'.plain z;refine eh (fun hf=>?_) fun hf=>?_
  ·have hf:t1.tooFull=true:=hf;rw[full,hl]at hf;have hf:=of_decide_eq_true hf;have h4:m=7/\kps.length=4:=hz.elim (fun z=>⟨z.1,(dd rfl:∀n,n<=4->7*3<=(n+1)*5->n=4) _ z.2 (z.1▸hf)⟩) fun z=>absurd (z.1▸hf:31*3<=(kps.length+1)*5) ((dd rfl:∀n,n<18->¬31*3<=(n+1)*5) _ hr);have T5:cY led kps' (o2 es pos (kh k,gi p)) t1 7 L':=h4.1▸T';have hs5:kps'.length=5:=by exact Z hl (Z h4.2 rfl)
   have hw:grown (es.size+1)=20:=by refine Z T.size (Z h4.2 ?_);rfl
   refine af (hw.symm▸Aao g1 T5 hs5 fun es2 t2 kps2 L2 r2 r4=>aE (h true _ kps2 ((dT _ _ _).trans (dT _ _ _)) ⟨_,_,_,_,_,Nq g1,r4,.inr ⟨rfl,by refine Z r2.length_eq (Z hs5 ?_);decide⟩⟩ (r2.trans q1)))
  ·have hf:¬t1.tooFull=true:=hf;rw[full,hl]at hf;have hf:=fun z=>hf (decide_eq_true z);exact aE (h true _ _ (dT _ _ _) ⟨_,_,_,_,_,g1,T',by
    refine Z hl ?_;rcases hz with⟨e,hz⟩|⟨e,hz⟩
    ·rw[e]at hf ⊢;exact .inl ⟨rfl,by exact AcE hf⟩
    ·exact .inr ⟨e,hr⟩⟩ q1)
theorem cH.move{h a:Heap}{x:Nat×Nat}(k:cH h p x)(e:∀o,h.get? p=some o->a.get? p=some o):cH a p x:=GF k fun o t u n b c d=>⟨o,t,u,n,e o b,c,d⟩
theorem dD.move{h b:Heap}(k:dD led h a kps)(e:∀o,h.get? a=some o->b.get? a=some o):dD led b a kps:=Fp k.ex fun es c t d=>AQ d fun m L f g=>⟨es,c,t,m,L,e _ f,g⟩
structure jG(ps:List ((Nat×Nat)×Addr))(i:Nat)(kps:List ((Nat×Nat)×Addr)):Prop where
 sub:∀x∈kps,x∈ps
 has:∀x∈ps.take i,x.1∈kps.map (·.1)
 len:kps.length<=i
 nd:(kps.map (·.1)).Nodup
theorem jG.step{ps:List ((Nat×Nat)×Addr)}{i:Nat}{b kps':List ((Nat×Nat)×Addr)}{x:(Nat×Nat)×Addr}(H':jG ps i b)(d:ps[i]?=some x)(h:kps'.Perm (if x.1∈b.map (·.1)then b else(x.1,x.2)::b)):jG ps (i+1) kps':=by
 have e:ps.take (i+1)=ps.take i++[x]:=by refine Z List.take_add_one (Z d ?_);rfl
 by_cases c:x.1∈b.map (·.1)
 ·rw[if_pos c]at h;refine⟨fun y a=>H'.sub y (h.mem_iff.mp a),fun y a=>?_,by refine Z h.length_eq ?_;exact dS H'.len,(h.map (·.1)).nodup_iff.mpr H'.nd⟩;rw[e,bX,al]at a;rw[(h.map (·.1)).mem_iff];rcases a with a|rfl
  ·exact H'.has y a
  ·exact c
 ·rw[if_neg c]at h;refine⟨fun y a=>?_,fun y a=>?_,by refine Z h.length_eq ?_;exact cv H'.len,(h.map (·.1)).nodup_iff.mpr (cr.mpr ⟨c,H'.nd⟩)⟩
  ·rcases bg.mp (h.mem_iff.mp a)with rfl|a
   ·exact ay d
   ·exact H'.sub y a
  ·rw[e,bX,al]at a;rewrite[(h.map (·.1)).mem_iff];refine Z dr (Z (propext bg) ?_);rcases a with a|rfl
   ·exact .inr (H'.has y a)
   ·exact .inl rfl
variable{R:Result->cE->Prop}{H':Addr}{fp wr:List Addr}{G:Array GenState->Array GenState->Prop}{n:Nat}{P:Nat->bm->Prop}{St:Nat->cE->Prop}
theorem IQ(W:WalksS prog w A.in1 H' fp wr G n P St)(S:Addr)(u:S∉fp){ps:List ((Nat×Nat)×Addr)}(z:A.in1.units<kB)(g:∀x∈ps,x.1∈dX/\x.2≠S/\x.2∉wr)(hn:ps.length=n)(hz:n<=18)
  (B:∀i v,P i v->∃x,ps[i]?=some x/\v=.ref x.2) :
  ∀(k i:Nat) (s:cE),n-i=k->i<=n->St i s->∀kps,dD led s.heap S kps->jG ps i kps->(∀x∈ps,cH s.heap x.2 x.1) ->
   (∀d a,Moved (S::wr) G s d->dD led d.heap S a->jG ps n a->R (.ok (.ret .none)) d) ->
   mB (eA prog w) A (.builtin "set.update.loop" ⟨[.ref S,.ref H'],[]⟩) R s:=by
 have C:S∉wr:=fun h=>u (W.sub _ h);have f:∀b∈wr,b∈S::wr:=fun b D=>kL _ D;intro k;induction k with
 |zero=>
  intro i s N rL j kps Ab E H Q;have T:i=n:=AbO N rL;subst T;refine ov l0 ?_;rw[ng i6 _];show dy _ A.in1 (lI (.ref H') >>= _) _ _ s;refine af (W.done s _ _ j fun d t=>?_);show dy _ A.in1 (ret Value.none) _ _ d;exact aE (Q d kps (t.mono f) (Ab.move fun o e=>t.heap S o C e) E)
 |succ k ih=>
  intro i s N rL j kps Ab E H Q;have l:i<n:=Nat.lt_of_sub_eq_succ N;refine ov l0 ?_;rw[ng i6 _];show dy _ A.in1 (lI (.ref H') >>= _) _ _ s;refine af (W.item i s _ _ l j fun v d hP ad t=>Ad (B i v hP) fun x hx AH=>?_);subst AH;have m:=ay hx;have aj:dD led d.heap S kps:=Ab.move fun o e=>t.heap S o C e;have c:∀x∈ps,cH d.heap x.2 x.1:=fun y p=>(H y p).move fun o e=>t.heap _ o (g y p).2.2 e;show dy _ A.in1 (mx [gi x.2] (setAdd S (.ref x.2)) >>= _) _ _ d;refine af (eT ?_);unfold setAdd;refine eT (af (wpAny_pyHash_tuple z ((c x m).key) ?_));rw[yS];refine UY z aj (aI E.len (bv l hz)) (g x m).1 (c x m) (fun y p=>c y (E.sub y p)) fun b h' a q X hp=>aE ⟨plainId_quiet i6 _,ih (i+1) _ (w7 N) l (W.frame _ d _ _ ad (bp _ _) fun b D o e=>?_) a X (E.step hx hp) (fun y p=>(c y p).move fun o e=>?_) fun ws r K L xs=>?_⟩
  ·rw[q.2 b (fun h:b=S=>u (by rw[<-h];exact D))];exact e
  ·rw[q.2 _ (g y p).2.1];exact e
  ·refine Q ws r (Moved.trans W.gtrans ((t.mono f).then_heap (bp _ _) fun b o D e=>?_) K) L xs;rw[q.2 b (fun h:b=S=>D (by rw[h];exact lp))];exact e
end
section
variable{prog:om}{w:nK}{A:iL}{E:bm->cE->Prop}{s:cE}
noncomputable def J6(w:nK):Bool:=!w.params.followText "set-order"
def Ip(w:nK):Obj:=NU #[] 0 (.fresh 0 0 (J6 w))
theorem Mv(a:bm){Q₁:bm->cE->Prop}(h:Q₁ (.ref s.heap.objs.size) {s with heap:=s.heap.push (Ip w)}):
  mB (eA prog w) A (.call (.builtin "set.__new__") ⟨[.type "set",a],[]⟩) (wants Q₁ E) s:=by
 refine codeAny_of_tree ?_;show dy _ A.in1 (do checkBuiltinCall "set.__new__" ⟨[.type "set",a],[]⟩;again (.builtin "set.__new__" ⟨[.type "set",a],[]⟩)) _ _ s;refine af (h8 (PySem.F.newCall_set_1 a) (aE ⟨plainId_quiet PySem.F.plain_set_new _,ov PySem.F.entry_set_new (Z (ng PySem.F.plain_set_new _) ?_)⟩));unfold kg.«set.__new__» Builtin.Frozenset.newClass;have hsub:=sub_set_self;obtain⟨hp,g,d,tk,os⟩:=s;dsimp only
 wp_walk
 refine kS (aE ?_);dsimp only;unfold newObj;exact af (wpAny_alloc (aE (aE h)))
theorem Xl(h:Heap):dD (J6 w) (h.push (Ip w)) h.objs.size []:=
 ⟨#[],0,_,7,[],cn _ rfl,⟨rfl,PV 0 0 _,rfl,rfl,rfl,fun z h=>absurd h am,d0⟩,.inl ⟨rfl,dd rfl⟩⟩
set_option maxHeartbeats 3200000 in
theorem Ri{l:Addr}{ps:List ((Nat×Nat)×Addr)}{R:Fin->cE->Prop}{E':bm->cE->Prop}(hu:A.units+300<kB)
  (hh:A.handled=none) (hl:s.heap.IsList l (ps.map fun x=>gi x.2).toArray) (hz:ps.length<=18) (hps:∀x∈ps,x.1∈dX) (hel:∀x∈ps,cH s.heap x.2 x.1) (hT:Shared.TypeIs {s with heap:=s.heap.push (Ip w)} (.ref s.heap.objs.size) "set")
  (hR:∀(h':Heap) (tk:Nat) kps,dD (J6 w) h' s.heap.objs.size kps->jG ps ps.length kps->(∀b o,s.heap.get? b=some o->h'.get? b=some o)->dy (eA prog w) A.in1.in1 (ret Value.none) R E' {s with heap:=h',toks:=tk}) :
  dy (eA prog w) A.in1.in1 (kg.«set.__init__» {pos:=[gi s.heap.objs.size]++[gi l]}) R E' {s with heap:=s.heap.push (Ip w)}:=by
 refine AA hl fun ol zr=>Gz zr fun hol hcl nl hdl=>?_;obtain⟨ocls,odict,odata,oslots⟩:=ol;simp only at hcl hdl;subst hcl;subst hdl;have hol':(s.heap.push (Ip w)).get? l=some {cls:=.type "list",dict:=odict,data:=.seq (ps.map fun x=>gi x.2).toArray nl,slots:=oslots}:=bt _ hol;have hsls:=PySem.F.sub_list_set;have hslf:=PySem.F.sub_list_frozenset;have hne:(mh "list"==mh "dict")=false:=dd rfl;have hl1:(s.heap.push (Ip w)).IsList l (ps.map fun x=>gi x.2).toArray:=⟨_,hol',rfl,nl,rfl⟩
 have hset:(Ip w).data=.set #[] 0 (.fresh 0 0 (J6 w)):=rfl;unfold kg.«set.__init__» noKeywords Builtin.Frozenset.updateFrom;generalize hPI:pyIter=PI
 wp_walk
 subst hPI;refine qV hl1 (af (wpAny_runValue ?_));have hlS:l<s.heap.objs.size:=dt hol;have hh3:A.in1.in1.in1.handled=none:=by simp[hh]
 have hu3:A.in1.in1.in1.units<kB:=by
  show A.units+1+1+1<kB;exact wK hu
 have hI:(s.heap.push (Ip w)).objs.size=s.heap.objs.size+1:=by exact Z (oa ..) rfl
 have hlt:∀x∈ps,x.2<s.heap.objs.size:=fun x hx=>by
  exact CL (hel x hx) fun o t zr=>AQ zr fun u n e y=>dt e
 have hneI:l≠(s.heap.push (Ip w)).objs.size:=by refine Z hI ?_;exact dL (kt hlS)
 have hSf:s.heap.objs.size∉[(s.heap.push (Ip w)).objs.size,l]:=by
  refine Z hI ?_;simp only[bg,am,or_false,not_or];exact⟨dL (eK _),mT hlS⟩
 have hn:(ps.map fun x=>gi x.2).toArray.size=ps.length:=by simp
 refine IQ ((Walks.list hh3 _ l hneI (ps.map fun x=>gi x.2).toArray).toS) s.heap.objs.size hSf (led:=J6 w) (ps:=ps) hu3 (fun x hx=>⟨hps x hx,dL (hlt x hx),?_⟩) hn.symm (by refine Z hn ?_;exact hz) (fun i v hv=>?_) (ps.length-0) 0 _ (by exact Z hn rfl) (bq _)
  ⟨⟨_,cn _ rfl,rfl,rfl⟩,(hl1.push _)⟩ [] ?_ ⟨nofun,nofun,ai _,d0⟩ (fun x hx=>?_) fun s' kps hm hS' hI'=>?_
 ·have:=hlt x hx;exact Z hI (Z (propext al) (dL (kt this)))
 ·rw[<-fk]at hv;simp only[b9]at hv;cases q:ps[i]? with
  |none=>rw[q]at hv;cases hv
  |some x=>rw[q]at hv;exact⟨x,rfl,(ag hv).symm⟩
 ·exact(Xl s.heap).move fun o e=>bt _ e
 ·exact(hel x hx).move fun o e=>bt _ (bt _ e)
 ·obtain⟨h',g',d',tk',os'⟩:=s';have eg:g'=s.gens:=hm.gens;have ed:d'=s.drawn:=hm.drawn;have eo:os'=s.os:=hm.os;subst eg;subst ed;subst eo;show dy _ _ _ _ _ _;refine aE ?_;show dy _ _ (ret Value.none) _ _ _;rw[hn]at hI';refine hR h' tk' kps hS' hI' fun b o e=>?_;have hb:=dt e;exact hm.heap b o (by refine Z (propext bg) (Z (propext al) (Z hI ?_));intro z;rcases z with z|z<;>rw[z]at hb;exact dQ _ hb;exact dQ _ (ee (eK _) hb)) (bt _ (bt _ e))
variable{Q:bm->cE->Prop}
theorem Mn{l:Addr}{ps:List ((Nat×Nat)×Addr)}(hu:A.units+300<kB)
  (hh:A.handled=none) (hl:s.heap.IsList l (ps.map fun x=>gi x.2).toArray) (hz:ps.length<=18) (hps:∀x∈ps,x.1∈dX) (hel:∀x∈ps,cH s.heap x.2 x.1)
  (h:∀(h':Heap) (tk:Nat) kps,dD (J6 w) h' s.heap.objs.size kps->jG ps ps.length kps->(∀b o,s.heap.get? b=some o->h'.get? b=some o)->Q (.ref s.heap.objs.size) {s with heap:=h',toks:=tk}) :
  dy (eA prog w) A (call (.type "set") [.ref l]) Q E s:=by
 refine CL PySem.F.called_set.mro fun c tl hmro=>?_;have hmade:=PySem.F.called_set.made;have hsub:=PySem.F.called_set.sub;refine wpAny_call (codeAny_of_tree ?_);refine aE ⟨Code.quiet_builtin _ (by decide +kernel),ov F.entry_type_call (Z (Around.under_plain (weight_type_call_type "set" [.ref l] []) rfl) ?_)⟩;have h1:=PySem.F.called_set.notType;have h2:=PySem.F.called_set.canCreate;have hct:=PySem.F.typeCall_set_1 (.ref l)
 repeat (any_goals (first|assumption|wp_step))
 refine iA (Mv (.ref l) (E:=E) (Q₁:=fun obj aac=>obj=.ref s.heap.objs.size/\aac={s with heap:=s.heap.push (Ip w)}) ⟨rfl,rfl⟩) fun r aac hr=>?_;cases r with
 |error e=>exact hr|ok fl=>
  cases fl with
  |ret obj=>
   refine aV hr fun zq0 zq1=>?_;subst zq0 zq1;have hS:(s.heap.push (Ip w)).get? s.heap.objs.size=some (Ip w):=cn _ rfl;have hT:Shared.TypeIs {s with heap:=s.heap.push (Ip w)} (.ref s.heap.objs.size) "set":=⟨_,hS,rfl⟩
   have hli:=PySem.F.called_set.init.lookup;have hbi:=PySem.F.called_set.init.bind (.ref s.heap.objs.size)
   repeat (any_goals (first|assumption|wp_step))
   refine iA (codeAny_call_builtin (R:=wants (fun r aae=>r=.none/\∃h' tk kps,aae={s with heap:=h',toks:=tk}/\dD (J6 w) h' s.heap.objs.size kps/\jG ps ps.length kps /\
     (∀b o,s.heap.get? b=some o->h'.get? b=some o)) E) PySem.F.called_set.init.plain PySem.F.entry_set_init (check_set_init_1 hT ?_)) fun aaU aae aaE=>?_
   ·exact Ri hu hh hl hz hps hel hT fun h' tk kps a b c=>aE ⟨rfl,h',tk,kps,rfl,a,b,c⟩
   ·cases aaU with
    |error e=>exact aaE|ok fl2=>
     cases fl2 with
     |ret r=>
      obtain⟨rfl,h',tk,kps,rfl,hS',hI',hk'⟩:=aaE
      repeat (any_goals (first|assumption|wp_step))
      exact h _ _ _ hS' hI' hk'
     |_=>exact aaE.elim
  |_=>exact hr.elim
theorem cM:Slot "set_iterator" "__next__" "set_iterator.__next__":=
 .of (owner:="set_iterator") (n:="__next__") (by refine Z (jp ..) (Z gT ?_);kernel_rfl) (by decide +kernel) (by decide +kernel) (by decide +kernel)
  (by first|exact .inl (by decide +kernel)|exact .inr (by decide +kernel)) (by refine Z (kA ..) ?_;kernel_rfl)
theorem G2:entryFor table "set_iterator.__next__"=some kg.«set_iterator.__next__»:=entryFor_of_tree (by kernel_rfl)
theorem P9:th.lookup (q5 ['r','o','t','a','r','e','t','i','_','t','e','s'].reverse)=some Manifest.sig_set_iterator:=by kernel_rfl
theorem II(a:bm):rq "set_iterator.__next__" ⟨[a],[]⟩:=by
 unfold rq;refine Z (qa (id:="set_iterator.__next__") (n:=['_','_','t','x','e','n','_','_']) (o:=['r','o','t','a','r','e','t','i','_','t','e','s']) (by kernel_rfl) P9) ?_;kernel_rfl
theorem Ls:entryFor table "set.__iter__"=some kg.«frozenset.__iter__»:=
 sw (id':="frozenset.__iter__") (by kernel_rfl) rfl (by decide +kernel) (by kernel_rfl)
noncomputable def L9(w:nK):Bool:=w.params.followText "set-order"
def EX(w:nK)(a:Addr)(ep:Nat)(es:Array (Int×bm)):Array (Int×bm):=if L9 w then pickOrder (w.params.setOrder a ep) es else es
theorem Rp{b:Type}{l:List b}{n:Nat}(h:n<l.length):([l[n]]++l.eraseIdx n).Perm l:=by
 have e:l=l.take n++l[n]::l.drop (n+1):=by exact Z (List.getElem_cons_drop ..) (Z (kx ..) rfl)
 refine Z (List.eraseIdx_eq_take_drop_succ ..) ?_;have:=(List.perm_middle (a:=l[n]) (l₁:=l.take n) (l₂:=l.drop (n+1))).symm;rw[<-e]at this;exact this
set_option smartUnfolding false in
theorem PW{α:Type}(next:Nat->Nat)(n k:Nat)(l:List α)(out:Array α):pickOrder.go next (n+1) k l out=gL (motive:=fun z=>Array α) l[next k%l.length]? out fun x=>pickOrder.go next n (k+1) (l.eraseIdx (next k%l.length)) (out.push x):=rfl
theorem Pz{α:Type}(next:Nat->Nat)(n:Nat):∀(k:Nat) (l:List α) (out:Array α),l.length=n->(pickOrder.go next n k l out).toList.Perm (out.toList++l):=mS (fun k l out h=>Z (gg.mp h) (Z (aS ..) (.refl _))) (fun n ih k l out h=>by
 have hlt:next k%l.length<l.length:=hZ _ (Z h (iX _))
 refine Z (PW ..) (Z (ck hlt) ((ih (k+1) _ _ ((List.length_eraseIdx_of_lt hlt).trans (Z h rfl))).trans ?_));exact Z Array.toList_push (Z (ci ..) (rg _ (Rp hlt)))) n
theorem Qy(w:nK)(a:Addr)(ep:Nat)(es:Array (Int×bm)):(EX w a ep es).toList.Perm es.toList:=by
 unfold EX;split
 ·have:=Pz (w.params.setOrder a ep) es.size 0 es.toList #[] (by simp);unfold pickOrder;simpa using this
 ·exact p9 _
theorem LW(w:nK)(a:Addr)(ep:Nat)(es:Array (Int×bm)):(EX w a ep es).size=es.size:=Z (ap gu) (Z ((Qy w a ep es).length_eq) (Z gu rfl))
structure dW(w:nK)(h:Heap)(a:Addr)(es:Array (Int×bm))(ep:Nat)(t:hX):Prop where
 at':h.get? a=some (NU es ep t)
 fits:t.fits es.size=true
 plain:t.plain=true
 led:t.led=J6 w
 rise:OX t.place
variable{a:Addr}{es:Array (Int×bm)}{ep:Nat}{t:hX}
theorem dW.move{h b:Heap}(S:dW w h a es ep t)(e:∀o,h.get? a=some o->b.get? a=some o):dW w b a es ep t:=⟨e _ S.at',S.fits,S.plain,S.led,S.rise⟩
theorem dW.lH{h:Heap}(S:dW w h a es ep t):t.place.size=es.size:=by
 have:=S.fits;unfold SetTable.fits at this;rw[be,beq_iff_eq]at this;exact this.1
def HR(w:nK)(t:hX)(a i:Nat):Prop:=L9 w=true\/ow t.place a=i
theorem L4{Q:Option (bm×Nat)->cE->Prop}{d i:Nat}(S:dW w s.heap a es ep t)(r:HR w t d i)(D:i<=es.size)
  (h:∀b,(i<es.size->HR w t b (i+1))->Q ((EX w a ep es)[i]?.map fun e=>(e.2,b)) s):dy (eA prog w) A (setNext a d i ep) Q E s:=by
 unfold setNext;refine af (f7 S.at' rfl S.fits ?_);unfold setsByText;refine af (af (kS (aE ?_)));dsimp only;cases j:L9 w with
 |true=>
  have m:=j;refine Z (if_pos m) (Z (if_neg (by simp)) (af ?_));unfold setWalk;refine af (f7 S.at' rfl S.fits ?_);unfold setsByText;refine af (af (kS (aE ?_)));dsimp only;refine Z (if_pos m) (af (kS (aE (aE ?_))));have:=h d fun Y=>.inl j;unfold EX at this;rw[if_pos j]at this;exact this
 |false=>
  have m:¬(eA prog w).w.params.followText "set-order"=true:=by
   intro z;rw[show(eA prog w).w.params.followText "set-order"=L9 w from rfl,j]at z;cases z
  refine Z (if_neg m) ?_;have u:t.led=true:=by refine Z S.led ?_;show(!L9 w)=true;refine Z j ?_;rfl
  refine eh (fun n=>?_) (fun Y=>?_)
  ·have f:(!t.plain&&decide (es.size>1))=true:=n;rw[S.plain]at f;cases f
  ·refine af ?_;show dy _ _ (if(!t.led&&!es.isEmpty)=true then unsupported "set:maker-not-led" else pure ()) _ _ _;refine Z u (Z (if_neg (by simp)) (aE (aE ?_)));have o:=r.resolve_left (Z j ax);refine Z o ?_;have p:EX w a ep es=es:=by unfold EX;refine Z j ?_;rfl
   have k:∀b,b=t.place.getD i 0+1->i<es.size->HR w t b (i+1):=by
    intro b e c;refine .inr (Di (Fi S.rise b) fun v x y=>?_);have B:=S.lH;have R:=S.rise;subst e;rcases pV (ow t.place (t.place.getD i 0+1)) (i+1)with q|q|q
    ·have:=y i (de q) (Z B c);omega
    ·exact q
    ·have:=x (i+1) q;have:=R i (i+1) (eK i) (bv q v);omega
   by_cases c:i<es.size
   ·have l:=gx c;have g:i<t.place.size:=Z S.lH c;have C:=gx g;have:=h (t.place[i]+1) (k _ (by simp[lj,g]));rw[p,l]at this;exact Z l (Z C this)
   ·have l:=mo (fh c);have:=h 0 fun q=>absurd q c;rw[p,l]at this;exact Z l this
noncomputable def Zu(slot i:Nat)(a:Addr)(n ep:Nat):Obj:={cls:=.type "set_iterator",data:=.fields #[.int slot 0,.int i 0,.ref a,.int n 0,.int ep 0]}
structure di(h:Heap)(it:Addr)(slot i:Nat)(a:Addr)(n ep:Nat):Prop where
 ex:∃o,h.get? it=some o/\o.cls=.type "set_iterator"/\o.data=.fields #[.int slot 0,.int i 0,.ref a,.int n 0,.int ep 0]
variable{it:Addr}{slot i n:Nat}
theorem di.typeIs(x:di s.heap it slot i a n ep):s.TypeIs (.ref it) "set_iterator":=let⟨o,b,c,_⟩:=x.ex;⟨o,b,c⟩
theorem dW.typeIs(S:dW w s.heap a es ep t):s.TypeIs (.ref a) "set":=⟨_,S.at',rfl⟩
theorem di.move{h b:Heap}(S:di h it slot i a n ep)(e:∀o,h.get? it=some o->b.get? it=some o):di b it slot i a n ep:=let⟨o,c,r⟩:=S.ex;⟨o,e _ c,r⟩
theorem UP(S:dW w s.heap a es ep t)(hQ:Q (.ref s.heap.objs.size) {s with heap:=s.heap.push (Zu 0 0 a es.size ep)}):dy (eA prog w) A (pyIter (.ref a)) Q E s:=by
 have hT:=S.typeIs;refine qS hT PySem.F.slot_set_iter (ia PySem.F.slot_set_iter hT Ls ?_ (PySem.F.args_set_iter_1 _));unfold kg.«frozenset.__iter__» Builtin.Frozenset.slot0;refine af (af (aE ?_));unfold Builtin.Frozenset.addrOf;refine aE ?_;unfold Builtin.Frozenset.sizeOf;refine af (af (pE S.at' rfl S.fits (aE ?_)));unfold setDrawn;refine af (af (f7 S.at' rfl S.fits ?_));unfold setsByText;refine af (af (kS (aE (aE ?_))));dsimp only;refine eh (fun hab=>?_) (fun z=>?_)
 ·rw[be]at hab;have hab':(!t.plain&&decide (es.size>1))=true:=hab.2;rw[S.plain]at hab';cases hab'
 refine af (aE (af (wpAny_setEpoch_of S.at' rfl S.fits (af ?_))));unfold newFields;exact gy (aE ⟨_,rfl,"set_iterator",_,⟨_,cn _ rfl,rfl⟩,cM.lookup,hQ⟩)
theorem MT{Q:Option bm->cE->Prop}(S:dW w s.heap a es ep t)(H':di s.heap it slot i a es.size ep)(n:HR w t slot i)(e:i<es.size)
  (p:∀f b x,(EX w a ep es)[i]?=some x->HR w t b (i+1)->di f it b (i+1) a es.size ep->gI it s.heap f->Q (some x.2) {s with heap:=f}) :
  dy (eA prog w) A (lI (.ref it)) Q E s:=by
 have l:=H'.typeIs;obtain⟨o,g,q,c⟩:=H'.ex;unfold lI;refine af (mP (iP l cM
  (ia cM l G2 ?_ (II _))))
 unfold kg.«set_iterator.__next__»;refine af (aE (af (wpAny_fieldsOf g c ?_)));dsimp only;refine af (pE S.at' rfl S.fits (Z (if_neg (by simp)) ?_));have r:((slot:Int)).toNat=slot:=eS _;have u:((i:Int)).toNat=i:=eS _;have v:((ep:Int)).toNat=ep:=eS _;refine Z r (Z u (Z v ?_));have h:i<(EX w a ep es).size:=Z (LW ..) e;have m:=gx h;refine af (L4 S n (dk e) fun b j=>Z m ?_);dsimp only[gv];refine af (kz g c (by simp) ?_);have d:=f5 (sh (·.setIfInBounds 0 (l8 (b)))) g (sT (iS c _));refine af (kz d (iS c _) (by simp) ?_);have k:=f5 (sh (·.setIfInBounds 1 (l8 ((i)+1)))) d (sT (iS (iS c _) _));refine aE ⟨_,rfl,aE (p _ b _ m (j e) ⟨_,k,?_,?_⟩ ((dT ..).trans (dT ..)))⟩
 ·exact(Obj.cls_mapFields ..).trans ((Obj.cls_mapFields ..).trans q)
 ·refine Z (iS (iS c _) ..) ?_;simp[l8]
theorem Oe{Q:Option bm->cE->Prop}(hh:A.handled=none)(S:dW w s.heap a es ep t)(H':di s.heap it slot es.size a es.size ep)(g:HR w t slot es.size)
  (h:∀c,Heap.ExtBut it s.heap c->Q none {s with heap:=c}) :
  dy (eA prog w) A (lI (.ref it)) Q E s:=by
 have d:=H'.typeIs;obtain⟨o,e,n,f⟩:=H'.ex;unfold lI;refine af (mP (iP d cM
  (ia cM d G2 ?_ (II _))))
 unfold kg.«set_iterator.__next__»;refine af (aE ?_);refine af (wpAny_fieldsOf e f ?_);dsimp only;refine af (pE S.at' rfl S.fits ?_);refine Z (if_neg (by simp)) ?_;have i:((slot:Int)).toNat=slot:=eS _;have j:((es.size:Int)).toNat=es.size:=eS _;have k:((ep:Int)).toNat=ep:=eS _;refine Z i (Z j (Z k ?_));have l:(EX w a ep es)[es.size]?=none:=mo (Z (LW ..) (ai _));refine af (L4 S g (ai _) fun b m=>?_);refine Z l ?_;dsimp only[Option.map_none];refine af (kz e f (by simp) ?_);refine af ?_;unfold newExc newTuple;refine af (gy ?_ (by size_fits));refine af (h8 (by first|rfl|(simp only[firstArgMember];rfl)) ?_);refine gy ?_ (by size_fits);unfold raiseNew;refine af (wpAny_handled ?_);refine Z (hh) ?_;refine af (aE (wpAny_throw ?_));refine af (nz ⟨_,cn _ rfl,rfl⟩ isSubtype_stop ?_);exact aE (h _ (((dT ..).extBut.push _).push _))
theorem I2:Slot "set_iterator" "__iter__" "set_iterator.__iter__":=
 .of (owner:="set_iterator") (n:="__iter__") (by refine Z (jp ..) (Z gT ?_);kernel_rfl) (by decide +kernel) (by decide +kernel) (by decide +kernel)
  (by first|exact .inl (by decide +kernel)|exact .inr (by decide +kernel)) (by refine Z (kA ..) ?_;kernel_rfl)
theorem Om(a:bm):rq "set_iterator.__iter__" ⟨[a],[]⟩:=by
 unfold rq;refine Z (qa (id:="set_iterator.__iter__") (n:=['_','_','r','e','t','i','_','_']) (o:=['r','o','t','a','r','e','t','i','_','t','e','s']) (by kernel_rfl) P9) ?_;kernel_rfl
theorem Nc:entryFor table "set_iterator.__iter__"=some kg.«dict_keyiterator.__iter__»:=
 sw (id':="dict_keyiterator.__iter__") (by kernel_rfl) rfl (by decide +kernel) (by kernel_rfl)
theorem TL(H':di s.heap it slot i a n ep)(h:Q (.ref it) s):dy (eA prog w) A (pyIter (.ref it)) Q E s:=by
 refine qS H'.typeIs I2 (ia I2 H'.typeIs Nc ?_ (Om _));exact aE ⟨_,rfl,"set_iterator",_,H'.typeIs,cM.lookup,h⟩
theorem Ul(hh:A.handled=none)(H' a:Addr)(g:a≠H'):Walks prog w A H' [H',a] [H'] es.size (fun i v=>∃x,(EX w a ep es)[i]?=some x/\v=x.2) (fun i h=>(∃slot,di h H' slot i a es.size ep/\HR w t slot i)/\dW w h a es ep t) where
 sub:=fun b c=>by simp at c;simp[c]
 frame:=fun _ _ _ ⟨⟨slot,st,q⟩,S⟩ n=>⟨⟨slot,st.move fun o e=>n H' (by simp) o e,q⟩,S.move fun o e=>n a (by simp) o e⟩
 item:=fun i s Q E p ⟨⟨slot,st,q⟩,S⟩ f=>by
  exact MT S st q p fun j d x r k u c=>f x.2 j s.toks ⟨x,r,rfl⟩ ⟨⟨d,u,k⟩,S.move fun o e=>(c.2 a g).trans e⟩ fun b o l e=>c.extBut b o (fun h=>l (by simp[h])) e
 done:=fun s Q E ⟨⟨slot,st,q⟩,S⟩ f=>Oe hh S st q fun j m=>f j s.toks fun b o c e=>m b o (fun h=>c (by simp[h])) e
 self:=fun _ _ _ _ ⟨⟨_,st,_⟩,_⟩ f=>TL st f
theorem Vq{Q:Bool->cE->Prop}(e:s.TypeIs (.ref a) "set")(h:Q false s):dy (eA prog w) A (oB (.ref a)) Q E s:=by
 unfold oB;refine af (ly e PySem.F.slot_set_len.lookup ?_);generalize d:("set.__len__")=id0
 wp_delta
 rw[show splitId id0=some ("set","__len__")from by subst d;decide +kernel];subst d;exact af (nz (b:=true) e (by rw[kA];kernel_rfl) (eh (fun c=>absurd c (dd rfl)) (fun z=>eh (fun z=>af (wpAny_typeOf e (aE h))) (fun c=>absurd (by decide +kernel) c))))
theorem YC:KdlSrc prog w "set" a a es.size (fun i v=>∃x,(EX w a ep es)[i]?=some x/\v=x.2) (fun h=>dW w h a es ep t) where
 type:=fun z S=>S.typeIs
 there:=fun z S=>⟨dt S.at',dt S.at'⟩
 keep:=fun z z S hk=>S.move fun o e=>hk a (.inl rfl) o e
 notList:=dd rfl
 notTuple:=dd rfl
 hint:=fun z z z z S hq=>Vq S.typeIs hq
 iter:=fun A s hh S=>by
  have hne:=dL (dt S.at');refine⟨Zu 0 0 a es.size ep,_,fun E Q hq=>UP S hq,Ul hh _ _ hne,⟨0,⟨_,cn _ rfl,rfl,rfl⟩,(.inr (Di (Fi S.rise 0) fun b1 b2 b3=>?_))⟩,S.move fun o e=>bt _ e⟩;rcases Nat.eq_zero_or_pos (ow t.place 0)with q|q
  ·exact q
  ·have:=b2 0 q;exact wk this
theorem Ng{Q:bm->cE->Prop}(hh:A.handled=none)(S:dW w s.heap a es ep t)(k:es.size<=aT)
  (l:∀f g c h,(∀b o,s.heap.get? b=some o->f.get? b=some o)->f.get? s.heap.objs.size=some {cls:=.type "list",dict:=none,data:=.seq c h,slots:=#[]}->c.toList.Perm (es.toList.map (·.2))->Q (.ref s.heap.objs.size) {s with heap:=f,toks:=g}) :
  dy (eA prog w) A (call (.type "list") [.ref a]) Q E s:=by
 refine kdl_call (YC) hh S k fun f g c h m n d=>l f g c h m n ?_;have:c.toList=(EX w a ep es).toList.map (·.2):=by
  refine List.ext_getElem? fun i=>?_;rw[fk,b9,fk];cases e:c[i]? with
  |none=>
   have p:=Array.getElem?_eq_none_iff.mp e;rw[mo (by rw[LW,<-d.1];exact p)];rfl
  |some v=>
   refine Ad (d.2 i v e) fun x q j=>?_;subst j;rw[q];rfl
 rw[this];exact(Qy w a ep es).map _
end
end Mine.Lake
end
section
open PySem PySem.W PySem.Calls PyProof.Rows
set_option tactic.hygienic false
namespace Mine.Lake
theorem ED{c:Type}{a b:c}{l:List c}(h:a∈b::l):b=a\/a∈l:=(bg.mp h).imp ap id
theorem Bb{c:Type}{a b:c}(h:a∈[b]):b=a:=(al.mp h).symm
set_option genInjectivity true in
inductive V where
 |aa|none|bool (b:Bool)|int (i:Int)|str (s:String)|ref (a:Addr)|typ (n:String)|blt (n:String)
 deriving DecidableEq
noncomputable def jO:V->Bool
 |.aa=>true|.none=>false|.bool _=>false|.int _=>false|.str _=>false|.ref _=>false|.typ _=>false|.blt _=>false
theorem nu{v:V}(h:jO v=false):v≠.aa:=fun e=>by rw[e]at h;cases h
noncomputable def mO:V->Bool
 |.aa=>false|.none=>false|.bool _=>false|.int _=>false|.str _=>false|.ref _=>false|.typ _=>false|.blt _=>true
theorem nb{v:V}(h:mO v=false)(n:String):v≠.blt n:=fun e=>by rw[e]at h;cases h
theorem sV{v w:V}(e:v=w)(h:jO w=false):v≠.aa:=by refine Z e ?_;exact nu h
theorem tH{v w:V}(e:v=w)(h:mO w=false)(n:String):v≠.blt n:=by refine Z e ?_;exact nb h n
def VR(v:bm):V->Prop
 |.aa=>False
 |.none=>v=.none
 |.bool b=>v=.bool b
 |.int i=>∃t,v=.int i t
 |.str x=>∃t,v=.str (ae x) t
 |.ref a=>v=.ref a
 |.typ n=>v=.type n
 |.blt n=>v=.builtin n
def cj:List bm->List V->Prop
 |[],[]=>True
 |v::vs,x::M=>VR v x/\cj vs M
 |_,_=>False
inductive At where
 |kind|line|parts|scope|name|sort|cB|place|node|parent|bN|params|body|d8|aM|aF|aR|own|aH
 |aL|aN|aJ|aP|bD|bQ|aA|cU
 deriving DecidableEq
noncomputable def At.str:At->String
 |.kind=>"kind"|.line=>"line"|.parts=>"parts"|.scope=>"scope"|.name=>"name"|.sort=>"sort"|.cB=>"is_captured"|.place=>"place"|.node=>"node"
 |.parent=>"parent"|.bN=>"is_program"|.params=>"params"|.body=>"body"|.d8=>"is_strict"|.aM=>"functions"|.aF=>"var_names"
 |.aR=>"uses_arguments"|.own=>"own"|.aH=>"self_binding"|.aL=>"children"|.aN=>"catches"|.aJ=>"captures"|.aP=>"captured"
 |.bD=>"local_count"|.bQ=>"cell_count"|.aA=>"param_places"|.cU=>"caught"
noncomputable def At.all:List At:=[.kind,.line,.parts,.scope,.name,.sort,.cB,.place,.node,.parent,.bN,.params,.body,.d8,.aM,.aF,.aR,.own,.aH,
 .aL,.aN,.aJ,.aP,.bD,.bQ,.aA,.cU]
theorem At.jt(k:At):k∈At.all:=by cases k<;>decide
def At.s(k:At):Str:=ae k.str
theorem At.lr:(At.all.map At.s).Nodup:=by decide +kernel
theorem At.qF{a b:At}(h:a.s=b.s):a=b:=by
 have f:∀l:List At,(l.map At.s).Nodup->a∈l->b∈l->a=b:=by
  intro l e g i;induction l with
  |nil=>cases g
  |cons x l j=>
   rw[dr,cr]at e;rcases bg.mp g with d|d
   ·rcases bg.mp i with c|c
    ·exact d.trans c.symm
    ·exact absurd (bn.mpr ⟨b,c,h.symm.trans (congrArg At.s d)⟩) e.1
   ·rcases bg.mp i with c|c
    ·exact absurd (bn.mpr ⟨a,d,h.trans (congrArg At.s c)⟩) e.1
    ·exact j e.2 d c
 exact f _ At.lr a.jt b.jt
set_option genInjectivity true in
inductive bI where
 |list (M:List V)
 |tup (M:List V)
 |dict (es:List (String×V)) (ep:Nat)
 |inst (C:Addr) (f:At->V)
 |set (M:List V)
abbrev U:=Addr->Option bI
theorem O2{H:U}{a C c:Addr}{f f':At->V}(h:H a=some (.inst C f))(b:H a=some (.inst c f')):f=f':=by rw[h]at b;injection b with b;injection b
noncomputable def U.set(H:U)(a:Addr)(o:bI):U:=fun b=>if b=a then some o else H b
theorem U.ak(H:U)(a:Addr)(o:bI):H.set a o a=some o:=if_pos rfl
theorem U.aC(H:U){a b:Addr}(o:bI)(h:b≠a):H.set a o b=H b:=if_neg h
def AR(o:Option bm)(x:V):Prop:=x≠.aa->∃v,o=some v/\VR v x
def o9(o:Option bm)(x:V):Prop:=match x with
 |.aa=>o=none
 |x=>∃v,o=some v/\VR v x
def dictAt(h:Heap)(x a:Addr):Prop:=∃o,h.get? x=some o/\o.dict=some a
structure Cx where
 prog:om
 w:nK
 K:Frag
 p:om
 loose:List Str
 mg:Str->Option bm
 mb:Str->Option bm
 gens:Array GenState
 drawn:Drawn
 os:OsState
 cm:Addr->Bool
def j5:List (Str×bm)->List (String×V)->Prop
 |[],[]=>True
 |(k,v)::r,(x,a)::b=>k=ae x/\VR v a/\j5 r b
 |_,_=>False
def jh(X:Cx)(h:Heap)(a:Addr)(es:List (String×V))(c:Nat):Prop:=(a==sysModules)=false/\∃b,h.DictAt (strKind X.prog X.w) a b c/\j5 b es
structure Wu(h:Heap)(a C:Addr)(f:At->V):Prop where
 ex:∃dx mA,h.get? a=some (ko C dx)/\dx≠a/\h.Ns1 dx mA/\Within mA (At.all.map At.s)/\∀k:At,o9 (mA k.s) (f k)
def fD(h:Heap)(a:Addr)(vs:Array bm):Prop:=∃n,h.get? a=some {cls:=.type "tuple",dict:=none,data:=.seq vs n,slots:=#[]}
theorem fD.isTup{h:Heap}{a:Addr}{vs:Array bm}(x:fD h a vs):IsTup h a vs:=let⟨n,e⟩:=x;⟨_,e,rfl,n,rfl⟩
def lw(X:Cx)(h:Heap)(a:Addr):bI->Prop
 |.list M=>∃vs:List bm,h.PlainList a vs.toArray/\cj vs M
 |.tup M=>∃vs:List bm,fD h a vs.toArray/\cj vs M
 |.dict es b=>jh X h a es b
 |.inst C f=>Wu h a C f
 |.set M=>∃es b t,dW X.w h a es b t/\cj (es.toList.map (·.2)) M
def AY(h:Heap)(H:U)(a:Addr):Prop:=H a≠none\/∃x C f,H x=some (.inst C f)/\dictAt h x a
def Good(X:Cx)(g:Heap):Prop:=X.K.In g/\TopRead X.p X.loose X.mg X.mb g
theorem Good.keeps{X:Cx}{g g':Heap}(G:Good X g)(k:∀b o,g.get? b=some o->g'.get? b=some o):Good X g':=⟨G.1.keeps k,G.2.keeps k⟩
structure RH(X:Cx)(g:Heap)(s:cE)(H:U):Prop where
 good:Good X g
 keep:∀b o,g.get? b=some o->s.heap.get? b=some o
 own:∀a o,H a=some o->lw X s.heap a o
 new:∀a,AY s.heap H a->g.get? a=none
 lE:∀x C f dx,H x=some (.inst C f)->dictAt s.heap x dx->H dx=none
 inj:∀x y C D f k dx,H x=some (.inst C f)->H y=some (.inst D k)->dictAt s.heap x dx->dictAt s.heap y dx->x=y
 gens:s.gens=X.gens
 drawn:s.drawn=X.drawn
 os:s.os=X.os
theorem RH.dN{X:Cx}{g:Heap}{s:cE}{H:U}(R:RH X g s H):Good X s.heap:=R.good.keeps R.keep
structure FS(own:Bool)(g:Heap)(env:Env):Prop where
 gl:env.globals=mu
 bi:env.builtins=builtinsNs
 kind:env.scope.kind=.function
 nodup:(env.scope.names.map (·.1)).Nodup
 oh:g.get? env.locals=none
 iC:own=true->∀x,(x,hJ)∈env.scope.names->∃c,env.cells.lookup x=some c/\g.get? c=none/\c≠env.locals
 apart:own=true->∀x y c,(x,hJ)∈env.scope.names->(y,hJ)∈env.scope.names->env.cells.lookup x=some c->env.cells.lookup y=some c->x=y
 cellIn:∀x k,(x,k)∈env.scope.names->(k=.free\/(k=.cell/\own=false))->∃c o,env.cells.lookup x=some c/\g.get? c=some o
structure FD(own:Bool)(h:Heap)(H:U)(env:Env)(m:List V):Prop where
 km:¬AY h H env.locals
 lG:own=true->∀x c,(x,hJ)∈env.scope.names->env.cells.lookup x=some c->¬AY h H c
 len:m.length=env.scope.names.length
 ns:∃mc,h.Ns env.locals mc/\∀i x,env.scope.names[i]?=some (x,uk)->AR (mc x) (m.getD i .aa)
 cell:∀i x k,env.scope.names[i]?=some (x,k)->(k=.cell\/k=.free)->∃c vo,env.cells.lookup x=some c/\h.IsCell c vo/\AR vo (m.getD i .aa)
open Classical in
def EF(h:Heap)(P:Addr->Prop):Heap:=⟨h.objs.mapIdx fun i o=>if P i then{cls:=.none,data:=.freed}else o,h.life⟩
open Classical in
theorem JL(h:Heap)(P:Addr->Prop)(a:Addr):(EF h P).get? a=if P a then none else h.get? a:=by
 by_cases b:P a
 ·have e:=(sp:(EF h P).objs[a]?=h.objs[a]?.map fun o=>if P a then{cls:=.none,data:=.freed}else o).trans (congrArg (fun g=>qv g h.objs[a]?) (funext fun o=>if_pos b));refine Z (if_pos b) ?_;unfold Heap.get?;refine Z e ?_;cases h.objs[a]?<;>rfl
 ·have e:=(sp:(EF h P).objs[a]?=h.objs[a]?.map fun o=>if P a then{cls:=.none,data:=.freed}else o).trans ((congrArg (fun g=>qv g h.objs[a]?) (funext fun o=>if_neg b)).trans Option.map_id');refine Z (if_neg b) ?_;unfold Heap.get?;exact Z e rfl
set_option tactic.hygienic true in
theorem R6{h:Heap}{P:Addr->Prop}{a:Addr}{o:Obj}(e:(EF h P).get? a=some o):¬P a/\h.get? a=some o:=by
 rw[JL]at e;split at e
 ·cases e
 ·rename_i q;exact⟨q,e⟩
theorem C6{h:Heap}{P:Addr->Prop}{a:Addr}(q:¬P a):(EF h P).get? a=h.get? a:=Z (JL ..) (Z (if_neg q) rfl)
theorem EL{h:Heap}{P:Addr->Prop}{a:Addr}(q:P a):(EF h P).get? a=none:=Z (JL ..) (Z (if_pos q) rfl)
theorem RH.weaken{X:Cx}{g g':Heap}{s:cE}{H:U}(G:Good X g)(k:∀b o,g.get? b=some o->g'.get? b=some o)(R:RH X g' s H):RH X g s H where
 good:=G
 keep b o e:=R.keep b o (k b o e)
 own:=R.own
 new a q:=by
  cases e:g.get? a with
  |none=>rfl|some o=>have:=k _ _ e;rw[R.new a q]at this;cases this
 lE:=R.lE
 inj:=R.inj
 gens:=R.gens
 drawn:=R.drawn
 os:=R.os
theorem RH.grow{X:Cx}{g:Heap}{s:cE}{H:U}(R:RH X g s H)(P:Addr->Prop)(c:∀a,P a->g.get? a=none):
  RH X (EF s.heap fun a=>AY s.heap H a\/P a) s H/\(∀b o,g.get? b=some o->(EF s.heap fun a=>AY s.heap H a\/P a).get? b=some o):=by
 have k:∀b o,g.get? b=some o->(EF s.heap fun a=>AY s.heap H a\/P a).get? b=some o:=by
  intro b o e;rw[C6]
  ·exact R.keep b o e
  ·rintro(q|q)
   ·rw[R.new b q]at e;cases e
   ·rw[c b q]at e;cases e
 exact⟨⟨R.good.keeps k,fun b o e=>(R6 e).2,R.own,fun a q=>EL (.inl q),R.lE,R.inj,R.gens,R.drawn,R.os⟩,k⟩
theorem IsCell.at{h a:Heap}{c:Addr}{v:Option bm}(H':h.IsCell c v)(k:∀o,h.get? c=some o->a.get? c=some o):a.IsCell c v:=by
 obtain⟨o,e,d⟩:=H';exact⟨o,k o e,d⟩
theorem FD.moved{own:Bool}{h a:Heap}{H b:U}{env:Env}{m:List V}(F:FD own h H env m)(d:¬AY a b env.locals)(f:∀o,h.get? env.locals=some o->a.get? env.locals=some o)
  (g:own=true->∀x c,(x,hJ)∈env.scope.names->env.cells.lookup x=some c->¬AY a b c)
  (j:∀x c k o,(x,k)∈env.scope.names->(k=.cell\/k=.free)->env.cells.lookup x=some c->h.get? c=some o->a.get? c=some o):FD own a b env m where
 km:=d
 lG:=g
 len:=F.len
 ns:=by
  obtain⟨l,⟨o,es,n,e,r⟩,q⟩:=F.ns;exact⟨l,⟨o,es,n,f o e,r⟩,q⟩
 cell i x k hi hk:=by
  obtain⟨c,p,e,H',q⟩:=F.cell i x k hi hk;exact⟨c,p,e,IsCell.at H' fun o s=>j x c k o (ay hi) hk e s,q⟩
theorem Rs{X:Cx}{own:Bool}{g:Heap}{s:cE}{H:U}{env:Env}{m:List V}(R:RH X g s H)(S:FS own g env)(F:FD own s.heap H env m):
  ∃g',RH X g' s H/\(∀b o,g.get? b=some o->g'.get? b=some o)/\∀l n,RH X g' l n->RH X g l n/\FD own l.heap n env m:=by
 obtain⟨B,k⟩:=R.grow (fun Z=>False) fun Z q=>q.elim;refine⟨_,B,k,fun l n d=>⟨d.weaken R.good k,?_⟩⟩;have f:∀a o,¬AY s.heap H a->s.heap.get? a=some o->(EF s.heap fun a=>AY s.heap H a\/False).get? a=some o:=fun a o q e=>by
  rw[C6]
  ·exact e
  ·rintro(z|z)
   ·exact q z
   ·exact z
 have w:∀a o,¬AY s.heap H a->s.heap.get? a=some o->¬AY l.heap n a:=fun a o q e z=>by
  have:=f a o q e;rw[d.new a z]at this;cases this
 obtain⟨K,⟨L,es,xs,C,D⟩,_⟩:=F.ns;refine F.moved (w _ _ F.km C) (fun o e=>d.keep _ _ (f _ _ F.km e)) (fun E x c p r=>?_) fun x c u o p j r e=>?_
 ·obtain⟨i,G⟩:=d6 p;obtain⟨t,N,h,⟨o,e,_⟩,_⟩:=F.cell i x .cell G (.inl rfl);obtain rfl:t=c:=ag (h.symm.trans r);exact w t o (F.lG E x t p r) e
 ·by_cases v:u=.cell/\own=true
  ·exact d.keep _ _ (f _ _ (F.lG v.2 x c (v.1▸p) r) e)
  ·have H':u=.free\/(u=.cell/\own=false):=by
    rcases j with j|j
    ·refine .inr ⟨j,?_⟩;cases ad:own with
     |false=>rfl|true=>exact absurd ⟨j,ad⟩ v
    ·exact .inl j
   obtain⟨t,Ab,h,y⟩:=S.cellIn x u p H';obtain rfl:t=c:=ag (h.symm.trans r);have A:=R.keep _ _ y;rw[e]at A;cases A;exact d.keep _ _ (k _ _ y)
structure iw(d:Nat)(A:iL):Prop where
 handled:A.handled=none
 depth:A.depth+d<990
 units:A.units+40*d+400<kB
theorem iw.mono{d e:Nat}{A:iL}(h:iw d A)(q:e<=d):iw e A:=⟨h.handled,by have:=h.depth;exact ar6 q this,by have:=h.units;exact vh q this⟩
theorem iw.room{d:Nat}{A:iL}(h:iw d A):A.depth<recursionLimit:=by have:=h.depth;have e:recursionLimit=1000:=rfl;exact vX this e
theorem iw.cl{d:Nat}{A:iL}(h:iw d A):A.units+300<kB:=by have:=h.units;exact vf this
inductive Ps{α β:Type}(X:Cx)(g:Heap)(rel:α->β->Prop)(Q:β->U->Prop)(v:α)(s:cE):Prop where
 |mk (b:β) (I:U):rel v b->RH X g s I->Q b I->Ps X g rel Q v s
inductive ZH{α β:Type}(X:Cx)(g:Heap)(own:Bool)(env:Env)(m:List V)(rel:α->β->Prop)(Q:β->U->Prop)(v:α)(s:cE):Prop where
 |mk (b:β) (I:U):rel v b->RH X g s I->FD own s.heap I env m->Q b I->ZH X g own env m rel Q v s
inductive UG{α β:Type}(X:Cx)(g:Heap)(own:Bool)(env:Env)(rel:α->β->Prop)(Q:β->U->List V->Prop)(v:α)(s:cE):Prop where
 |mk (b:β) (I:U) (m':List V):rel v b->RH X g s I->FD own s.heap I env m'->Q b I m'->UG X g own env rel Q v s
section
variable(X:Cx)(d:Nat)(H:U)(own:Bool)(env:Env)(m:List V)
def PT{α β:Type}(t:Sem α)(a:α->β->Prop)(Q:β->U->Prop):Prop:=
 ∀A g s,iw d A->RH X g s H->dy (eA X.prog X.w) A t (Ps X g a Q) (fun z z=>False) s
def ET{α β:Type}(t:Sem α)(a:α->β->Prop)(Q:β->U->Prop):Prop:=
 ∀A g s,iw d A->RH X g s H->FS own g env->FD own s.heap H env m ->
  dy (eA X.prog X.w) A t (ZH X g own env m a Q) (fun z z=>False) s
def ST{α β:Type}(t:Sem α)(a:α->β->Prop)(Q:β->U->List V->Prop):Prop:=
 ∀A g s,iw d A->RH X g s H->FS own g env->FD own s.heap H env m ->
  dy (eA X.prog X.w) A t (UG X g own env a Q) (fun z z=>False) s
end
section
variable{X:Cx}{d:Nat}{H:U}{own:Bool}{env:Env}{m:List V}{α β γ δ:Type}
theorem ET.mono{t:Sem α}{a:α->β->Prop}{Q Q':β->U->Prop}(h:ET X d H own env m t a Q)(q:∀b c,Q b c->Q' b c):ET X d H own env m t a Q':=
 fun A g s f R S F=>db (h A g s f R S F) (fun y y e=>e.casesOn fun b c r i j z=>⟨b,c,r,i,j,q _ _ z⟩) fun y y x=>x
theorem ST.mono{t:Sem α}{a:α->β->Prop}{Q Q':β->U->List V->Prop}(h:ST X d H own env m t a Q)(q:∀b c m',Q b c m'->Q' b c m'):ST X d H own env m t a Q':=
 fun A g s f R S F=>db (h A g s f R S F) (fun y y e=>e.casesOn fun b c m' r i j z=>⟨b,c,m',r,i,j,q _ _ _ z⟩) fun y y x=>x
variable{g:Heap}{s:cE}
theorem PT.use{t:Sem α}{a:α->β->Prop}{Q:β->U->Prop}{P:α->cE->Prop}(h:PT X d H t a Q){A:iL}(i:iw d A)(R:RH X g s H)(k:∀v c b e,a v b->RH X g c e->Q b e->P v c):
  dy (eA X.prog X.w) A t P (fun z z=>False) s:=db (h A g s i R) (fun v c f=>f.casesOn fun b e r j q=>k v c b e r j q) fun z z x=>x
theorem ET.use{t:Sem α}{a:α->β->Prop}{Q:β->U->Prop}{P:α->cE->Prop}(h:ET X d H own env m t a Q){A:iL}(i:iw d A)(R:RH X g s H)(S:FS own g env)(F:FD own s.heap H env m)
  (k:∀v c b e,a v b->RH X g c e->FD own c.heap e env m->Q b e->P v c):dy (eA X.prog X.w) A t P (fun z z=>False) s:=db (h A g s i R S F) (fun v c f=>f.casesOn fun b e r j l q=>k v c b e r j l q) fun z z x=>x
theorem ST.use{t:Sem α}{a:α->β->Prop}{Q:β->U->List V->Prop}{P:α->cE->Prop}(h:ST X d H own env m t a Q){A:iL}(i:iw d A)(R:RH X g s H)(S:FS own g env)(F:FD own s.heap H env m)
  (k:∀v c b e m',a v b->RH X g c e->FD own c.heap e env m'->Q b e m'->P v c):dy (eA X.prog X.w) A t P (fun z z=>False) s:=db (h A g s i R S F) (fun v c f=>f.casesOn fun b e m' r j l q=>k v c b e m' r j l q) fun z z x=>x
theorem PT.et{t:Sem α}{c:α->β->Prop}{Q:β->U->Prop}(h:PT X d H t c Q):ET X d H own env m t c Q:=fun A g s j R S F=>by
 exact Az (Rs R S F) fun l k y a=>h.use j k (fun y i b f r e z=>⟨b,f,r,(a i f e).1,(a i f e).2,z⟩)
theorem RH.toks(R:RH X g s H)(t:Nat):RH X g {s with toks:=t} H:=⟨R.good,R.keep,R.own,R.new,R.lE,R.inj,R.gens,R.drawn,R.os⟩
theorem Dd{names:List (Str×ce)}(b:(names.map (·.1)).Nodup){i:Nat}{x:Str}{k:ce}(a:names[i]?=some (x,k)):names.lookup x=some k:=by
 induction names generalizing i with
 |nil=>simp at a
 |cons p r f=>
  obtain⟨y,g⟩:=p;rw[dr,cr]at b;cases i with
  |zero=>simp at a;refine aV a fun c d=>?_;subst c d;simp
  |succ i=>
   rw[sj]at a;have:=fun e=>b.1 (bn.mpr ⟨(x,k),ay a,e⟩);exact Z e9 (Z (beq_false_of_ne this) (f b.2 a))
theorem FS.kindOf(S:FS own g env){i:Nat}{x:Str}{k:ce}(a:env.scope.names[i]?=some (x,k)):env.kindOf x=some k:=Dd S.nodup a
variable{pos:Pos}{Q:V->U->Prop}
theorem za{i:Nat}{x:Str}{k:ce}(b:env.scope.names[i]?=some (x,k))(a:k=.local\/k=.cell\/k=.free)
  (n:(x==("__debug__":Str))=false) (e:(x==("__classdict__":Str))=false) (j:m.getD i .aa≠.aa) (q:Q (m.getD i .aa) H):ET X d H own env m (eval (.Name x pos) env) VR Q:=fun A g s w R S F=>by
 refine wpAny_Name ?_ n;have f:=S.kindOf b;rcases a with rfl|a
 ·exact Ad F.ns fun y o p=>Ad (p i x b j) fun v t r=>wpAny_loadName_local S.kind f o t ⟨_,H,r,R,F,q⟩
 ·refine Ay (F.cell i x k b a) fun c z l H' u=>Ad (u j) fun v h r=>?_;subst h;rcases a with rfl|rfl
  ·exact wpAny_loadName_cell S.kind f l H' ⟨_,H,r,R,F,q⟩
  ·exact wpAny_loadName_free S.kind f l H' ⟨_,H,r,R,F,q⟩ e
def Ku(X:Cx)(x:Str)(v:V):Prop:=∃c,VR c v/\(nsIn X.K mu x=some (some c)\/(nsIn X.K mu x=some none/\bootBuiltins x=some c/\x≠"__name__"))
theorem Rl{x:Str}{v:V}(f:env.scope.names.lookup x=some uj)(h:Ku X x v)
  (i:(x==("__debug__":Str))=false) (q:Q v H):ET X d H own env m (eval (.Name x pos) env) VR Q:=fun A g s n R S F=>by
 refine Ad h fun c r j=>?_;have T:=R.good.2.keeps R.keep;have a:=R.dN.1;refine Name_function_global S.kind f ?_ i;rcases j with e|⟨e,k,l⟩
 ·exact loadGlobal_global (Z S.gl T.g) (mg_of a T.g e) ⟨_,H,r,R,F,q⟩
 ·exact loadGlobal_builtin (Z S.gl T.g) (mg_none_of a T.g e) (Z S.bi T.b) ((T.builtins x l).trans k) ⟨_,H,r,R,F,q⟩
variable{k:Nat}
theorem yJ(q:Q .none H):ET X d H own env m (eval (.Constant .none k pos) env) VR Q:=fun z z z z R z F=>Constant_none ⟨.none,H,rfl,R,F,q⟩
theorem Abm{b:Bool}(q:Q (.bool b) H):ET X d H own env m (eval (.Constant (.bool b) k pos) env) VR Q:=fun z z z z R z F=>Constant_bool ⟨.bool b,H,rfl,R,F,q⟩
theorem Va{i:Int}(q:Q (.int i) H):ET X d H own env m (eval (.Constant (.int i) k pos) env) VR Q:=fun z z z z R z F=>wpAny_Constant_int ⟨.int i,H,⟨_,rfl⟩,R.toks _,F,q⟩
theorem vM{x:String}(q:Q (.str x) H):ET X d H own env m (eval (.Constant (.str (ae x)) k pos) env) VR Q:=
 fun z z z z R z F=>Constant_str ⟨.str x,H,⟨_,rfl⟩,R.toks _,F,q⟩
theorem qp{l r:Expr}{op:o3}
  (h:ET X d H own env m (eval l env) VR fun a c=>ET X d c own env m (eval r env) VR fun b e=>∀va q,VR va a->VR q b->PT X d e (kC op va q) VR Q) :
  ET X d H own env m (eval (.BinOp l op r pos) env) VR Q:=fun A g s t R S F=>
 wpAny_BinOp (h.use t R S F (fun va u z z v f i j=>j.use t f S i (fun q k z z w n o p=>(p va q v w).et A g k t n S o)))
theorem qz{l r:Expr}{op:mE}
  (h:ET X d H own env m (eval l env) VR fun a c=>ET X d c own env m (eval r env) VR fun b e=>∀va q,VR va a->VR q b->PT X d e (gX op va q) VR Q)
  (v:lb op r=false):ET X d H own env m (eval (.Compare l [op] [r] pos) env) VR Q:=fun A g s t R S F=>
 wpAny_Compare1 (h.use t R S F (fun va u z z w f i j=>j.use t f S i (fun q k z z x n o p=>(p va q w x).et A g k t n S o))) v
theorem nR{t b o:Expr}
  (h:ET X d H own env m (isTrue t env (eval t env)) Eq fun c a=>if c then ET X d a own env m (eval b env) VR Q else ET X d a own env m (eval o env) VR Q) :
  ET X d H own env m (eval (.IfExp t b o pos) env) VR Q:=fun A g s l R S F=>
 IfExp_ (h.use l R S F (fun c f n z e i j k=>by
  subst e;cases c with
  |true=>exact k A g f l i S j|false=>exact k A g f l i S j))
variable{e:Expr}
theorem uY 
  (h:ET X d H own env m (eval e env) VR fun a c=>∃b,a=.bool b/\Q (.bool !b) c):ET X d H own env m (eval (.UnaryOp .Not e pos) env) VR Q:=fun A g s l R S F=>
 UnaryOp_ (h.use l R S F (fun v k a c r f i j=>Ad j fun b n q=>by
  subst n;obtain rfl:=r;exact not_of (j2 ⟨.bool !b,c,rfl,f,i,q⟩)))
theorem pM{e₁ e₂:Expr}{e:List Expr}
  (h:ET X d H own env m (eval e₁ env) VR fun a c=>∃b,a=.bool b/\if b then ET X d c own env m (eval (.BoolOp .And (e₂::e) pos) env) VR Q else Q (.bool false) c) :
  ET X d H own env m (eval (.BoolOp .And (e₁::e₂::e) pos) env) VR Q:=fun A g s l R S F=>
 BoolOp_and (h.use l R S F (fun v j a c r f i k=>Ad k fun b n q=>by
  subst n;obtain rfl:=r;refine j2 ?_;cases b with
  |true=>exact q A g j l f S i|false=>exact⟨.bool false,c,rfl,f,i,q⟩))
theorem rN{e₁ e₂:Expr}{e:List Expr}
  (h:ET X d H own env m (eval e₁ env) VR fun a c=>∃b,a=.bool b/\if b then Q (.bool true) c else ET X d c own env m (eval (.BoolOp .Or (e₂::e) pos) env) VR Q) :
  ET X d H own env m (eval (.BoolOp .Or (e₁::e₂::e) pos) env) VR Q:=fun A g s l R S F=>
 BoolOp_or (h.use l R S F (fun v j a c r f i k=>Ad k fun b n q=>by
  subst n;obtain rfl:=r;refine j2 ?_;cases b with
  |true=>exact⟨.bool true,c,rfl,f,i,q⟩|false=>exact q A g j l f S i))
variable{w:Sem bm}
theorem z6{Q:Bool->U->Prop}(h:ET X d H own env m (isTrue e env (eval e env)) Eq fun b a=>Q (!b) a):
  ET X d H own env m (isTrue (.UnaryOp .Not e pos) env w) Eq Q:=fun A g s k R S F=>
 isTrue_not (h.use k R S F (fun c j z a e f i q=>by subst e;exact⟨_,a,rfl,f,i,q⟩))
theorem qu{l r:Expr}{op:mE}{Q:Bool->U->Prop}
  (h:ET X d H own env m (eval l env) VR fun a f=>ET X d f own env m (eval r env) VR fun b i=>∀va x,VR va a->VR x b->PT X d i (gX op va x) VR fun c e=>∃b,c=.bool b/\Q b e)
  (E:lb op r=false):ET X d H own env m (isTrue (.Compare l [op] [r] pos) env w) Eq Q:=fun A g s y R S F=>
 wpAny_isTrue_Compare1 (h.use y R S F (fun va B Z Z G j k n=>n.use y j S k (fun x C Z Z H' o p t=>
  ((t va x G H').et).use y o S p (fun L D c e ad u v z=>Ad z fun b K q=>by
   subst K;obtain rfl:=ad;exact j2 ⟨_,e,rfl,u,v,q⟩)))) E
theorem pY{f:List Expr}{Q:Bool->U->Prop}
  (h:ET X d H own env m (isTrue e env (eval e env)) Eq fun b a=>if b then ET X d a own env m (isTrue (.BoolOp .And f pos) env w) Eq Q else Q false a) :
  ET X d H own env m (isTrue (.BoolOp .And (e::f) pos) env w) Eq Q:=fun A g s l R S F=>
 isTrue_and (h.use l R S F (fun c k z a e i j q=>by
  subst e;cases c with
  |true=>exact q A g k l i S j|false=>exact⟨_,a,rfl,i,j,q⟩))
theorem rA{f:List Expr}{Q:Bool->U->Prop}
  (h:ET X d H own env m (isTrue e env (eval e env)) Eq fun b a=>if b then Q true a else ET X d a own env m (isTrue (.BoolOp .Or f pos) env w) Eq Q) :
  ET X d H own env m (isTrue (.BoolOp .Or (e::f) pos) env w) Eq Q:=fun A g s l R S F=>
 isTrue_or (h.use l R S F (fun c k z a e i j q=>by
  subst e;cases c with
  |true=>exact⟨_,a,rfl,i,j,q⟩|false=>exact q A g k l i S j))
theorem Tj{Q:Bool->U->Prop}(q:Q true H):ET X d H own env m (isTrue (.BoolOp .And [] pos) env w) Eq Q:=fun z z z z R z F=>isTrue_and_nil ⟨_,H,rfl,R,F,q⟩
theorem U5{Q:Bool->U->Prop}(q:Q false H):ET X d H own env m (isTrue (.BoolOp .Or [] pos) env w) Eq Q:=fun z z z z R z F=>isTrue_or_nil ⟨_,H,rfl,R,F,q⟩
theorem YP{Q:Bool->U->Prop}(h:ET X d H own env m (eval e env) VR fun a aaa=>∃b,a=.bool b/\Q b aaa)
  (he:isTrue e env (eval e env)=(do let v <-eval e env;standAt e.pos;mx [v] (truthy v))):ET X d H own env m (isTrue e env (eval e env)) Eq Q:=fun A g s hA R S F=>
 isTrue_plain (h.use hA R S F (fun v aac a aaa r aak aam zqz=>Ad zqz fun b ea q=>by
  subst ea;obtain rfl:=r;exact j2 ⟨b,aaa,rfl,aak,aam,q⟩)) he
theorem Ex{a:List Expr}(b:eB e=false):ix (e::a) env=(false,eval e env)::ix a env:=by
 cases e<;>first|rfl|exact absurd b.symm ax
theorem GA{t:Sem bm}{rest:List (Bool×Sem bm)}:kD pos ((false,t)::rest)=(false,t)::kD pos rest:=rfl
theorem W3{Q:List V->U->Prop}(q:Q [] H):ET X d H own env m (mr (kD pos (ix [] env))) cj Q:=fun z z z z R z F=>spliced_nil ⟨[],H,trivial,R,F,q⟩
theorem O9{c:List Expr}{Q:List V->U->Prop}(w:eB e=false)
  (h:ET X d H own env m (eval e env) VR fun a f=>ET X d f own env m (mr (kD pos (ix c env))) cj fun o b=>Q (a::o) b) :
  ET X d H own env m (mr (kD pos (ix (e::c) env))) cj Q:=fun A g s p R S F=>by
 refine Z (Ex w) (Z GA (spliced_cons (h.use p R S F (fun v t a f r i j q=>q.use p i S j (fun y u o b x k l n=>⟨a::o,b,⟨r,x⟩,k,l,n⟩)))))
variable{h:Heap}{a:Addr}
theorem IsTup.up{b:Heap}{its:Array bm}(H':fD h a its)(k:∀o,h.get? a=some o->b.get? a=some o):fD b a its:=let⟨n,e⟩:=H';⟨n,k _ e⟩
theorem IsList.up{b:Heap}{its:Array bm}(H':h.PlainList a its)(k:∀o,h.get? a=some o->b.get? a=some o):b.PlainList a its:=let⟨n,e⟩:=H';⟨n,k _ e⟩
theorem lw.up{c:Heap}{o:bI}(R:lw X h a o)(k:∀b,h.get? a=some b->c.get? a=some b)(m:∀C f,o=.inst C f->∀dx b,dictAt h a dx->h.get? dx=some b->c.get? dx=some b):lw X c a o:=by
 cases o with
 |list i=>refine Ad R fun d H' r=>?_;exact⟨d,IsList.up H' k,r⟩
 |tup i=>refine Ad R fun d H' r=>?_;exact⟨d,IsTup.up H' k,r⟩
 |dict es j=>obtain⟨n,g,⟨o,es,p,D⟩,r⟩:=R;exact⟨n,g,⟨o,es,k o p,D⟩,r⟩
 |inst C f=>
  obtain⟨dx,s,l,u,v,w,q⟩:=R;have x:dictAt h a dx:=⟨_,l,rfl⟩
  exact⟨dx,s,k _ l,u,v.at fun o e=>m C f rfl dx o x e,w,q⟩
 |set i=>refine Cb R fun es j t S r=>?_;exact⟨es,j,t,S.move k,r⟩
theorem RH.low(R:RH X g s H):(s.heap.objs.size==sysModules)=false:=by
 refine Cb R.dN.2.g fun o es a e z=>?_;have:=dt e;exact beq_false_of_ne (mT (aI (dd rfl) this))
theorem RH.fresh(R:RH X g s H):H s.heap.objs.size=none:=by
 cases e:H s.heap.objs.size with
 |none=>rfl|some o=>
  exfalso;have:=R.own _ _ e;have a:∀b,s.heap.get? s.heap.objs.size=some b->False:=fun b q=>dQ _ (dt q);cases o with
  |list c=>obtain⟨_,⟨b,q⟩,_⟩:=this;exact a _ q
  |tup c=>obtain⟨_,⟨b,q⟩,_⟩:=this;exact a _ q
  |dict es d=>obtain⟨_,_,⟨_,_,q,_⟩,_⟩:=this;exact a _ q
  |inst C f=>obtain⟨_,_,q,_⟩:=this;exact a _ q
  |set c=>refine Cb this fun z z z S z=>?_;exact a _ S.at'
theorem RH.there(R:RH X g s H){o:bI}(e:H a=some o):∃ob,s.heap.get? a=some ob:=by
 have:=R.own _ _ e;cases o with
 |list b=>obtain⟨_,⟨ob,q⟩,_⟩:=this;exact⟨_,q⟩
 |tup b=>obtain⟨_,⟨ob,q⟩,_⟩:=this;exact⟨_,q⟩
 |dict es c=>obtain⟨_,_,⟨_,_,q,_⟩,_⟩:=this;exact⟨_,q⟩
 |inst C f=>obtain⟨_,_,q,_⟩:=this;exact⟨_,q⟩
 |set b=>refine Cb this fun z z z S z=>?_;exact⟨_,S.at'⟩
theorem By{o:Obj}{x dx:Addr}(b:x≠h.objs.size):dictAt (h.push o) x dx↔dictAt h x dx:=by
 constructor
 ·rintro⟨a,e,q⟩;refine⟨a,?_,q⟩;have:(h.push o).get? x=h.get? x:=by
   cases h;unfold Heap.get?;exact Z (Array.getElem?_push) (Z (if_neg b) rfl)
  exact Z (ap this) e
 ·rintro⟨a,e,q⟩;exact⟨a,bt _ e,q⟩
theorem RH.push(R:RH X g s H)(o:Obj)(ao:bI)(i:∀C f,ao≠.inst C f)
  (r:lw X (s.heap.push o) s.heap.objs.size ao):RH X g {s with heap:=s.heap.push o} (H.set s.heap.objs.size ao):=by
 have G:=R.fresh;have h:∀{x C f},(H.set s.heap.objs.size ao) x=some (.inst C f)->x≠s.heap.objs.size/\H x=some (.inst C f):=fun{x C f} e=>by
  by_cases c:x=s.heap.objs.size
  ·rw[c,U.ak]at e;cases e;exact absurd rfl (i C f)
  ·rw[U.aC _ _ c]at e;exact⟨c,e⟩
 refine⟨R.good,fun b m e=>bt _ (R.keep b m e),fun a x e=>?_,fun a q=>?_,fun x C f dx e q=>?_,fun x y C D f k dx e j q t=>?_,R.gens,R.drawn,R.os⟩
 ·by_cases n:a=s.heap.objs.size
  ·subst n;rw[U.ak]at e;cases e;exact r
  ·rw[U.aC _ _ n]at e;exact(R.own a x e).up (fun Y e=>bt _ e) fun Y Y Y Y Y Y e=>bt _ e
 ·cases d:g.get? a with
  |none=>rfl|some u=>
   exfalso;have v:=dt (R.keep a u d);rcases q with q|⟨x,C,f,e,q⟩
   ·rw[U.aC _ _ (dL v)]at q;rw[R.new a (.inl q)]at d;cases d
   ·refine aV (h e) fun c e=>?_;rw[R.new a (.inr ⟨x,C,f,e,(By c).mp q⟩)]at d;cases d
 ·refine aV (h e) fun c e=>?_;have q:=(By c).mp q;have z:dx≠s.heap.objs.size:=by
   obtain⟨l,H',A,ad,⟨K,_,_,B,_⟩,w,L⟩:=R.own _ _ e;refine Ad q fun m p E=>?_;rw[A]at p;cases p;obtain rfl:l=dx:=ag E;exact dL (dt B)
  exact Z (U.aC _ _ z) (R.lE x C f dx e q)
 ·exact aV (h e) fun c e=>aV (h j) fun F j=>R.inj x y C D f k dx e j ((By c).mp q) ((By F).mp t)
theorem RH.cQ(R:RH X g s H)(o:Obj):RH X g {s with heap:=s.heap.push o} H:=by
 have i:=R.fresh;have c:∀{x C f},H x=some (.inst C f)->x≠s.heap.objs.size:=fun{x C f} e q=>by rw[q,i]at e;cases e
 refine⟨R.good,fun b j e=>bt _ (R.keep b j e),fun a x e=>(R.own a x e).up (fun z e=>bt _ e) fun z z z z z z e=>bt _ e,fun a q=>?_,
  fun x C f d e q=>R.lE x C f d e ((By (c e)).mp q),fun x y C D f k d e h q l=>R.inj x y C D f k d e h ((By (c e)).mp q) ((By (c h)).mp l),R.gens,R.drawn,R.os⟩
 rcases q with q|⟨x,C,f,e,q⟩
 ·exact R.new a (.inl q)
 ·exact R.new a (.inr ⟨x,C,f,e,(By (c e)).mp q⟩)
variable{vs:List bm}{M:List V}
theorem cj.length(h:cj vs M):vs.length=M.length:=by
 induction vs generalizing M with
 |nil=>cases M with|nil=>rfl|cons _ _=>exact h.elim
 |cons v vs a=>cases M with|nil=>exact h.elim|cons x M=>simp[a h.2]
theorem T0(r:cj vs M)(b:M.length<=aT)(q:∀a,H a=none->Q (.ref a) (H.set a (.list M))):PT X d H (newList vs) VR Q:=fun A g s c R=>by
 refine gy ⟨.ref s.heap.objs.size,_,rfl,R.push _ (.list M) (fun z z e=>nomatch e) ⟨vs,⟨_,cn _ rfl⟩,r⟩,q _ R.fresh⟩ ?_;show vs.toArray.size<=aT;exact Z bE (Z r.length b)
theorem Rj(r:cj vs M)(b:M.length<=aT)(q:∀a,H a=none->Q (.ref a) (H.set a (.tup M))):PT X d H (newTuple vs) VR Q:=fun A g s c R=>by
 refine gy ⟨.ref s.heap.objs.size,_,rfl,R.push _ (.tup M) (fun z z e=>nomatch e) ⟨vs,⟨_,cn _ rfl⟩,r⟩,q _ R.fresh⟩ ?_;show vs.toArray.size<=aT;exact Z bE (Z r.length b)
theorem Z2{es:List Expr}
  (h:ET X d H own env m (mr (kD pos (ix es env))) cj fun i b=>i.length<=aT/\∀a,b a=none->Q (.ref a) (b.set a (.list i))):ET X d H own env m (eval (.List es pos) env) VR Q:=fun A g s k R S F=>
 List_ (h.use k R S F (fun n c i b r e f j=>aV j fun l q=>(T0 r l q).et A g c k e S f))
theorem Ta{es:List Expr}
  (h:ET X d H own env m (mr (kD pos (ix es env))) cj fun i b=>i.length<=aT/\∀a,b a=none->Q (.ref a) (b.set a (.tup i))):ET X d H own env m (eval (.Tuple es k pos) env) VR Q:=fun A g s l R S F=>
 Tuple_ (h.use l R S F (fun o c i b r e f j=>aV j fun n q=>(Rj r n q).et A g c l e S f))
end
end Mine.Lake
end
section
open PySem PySem.W PySem.Calls PyProof.Rows PySem.Builtin PySem.Builtin.ObjectAttr
set_option tactic.hygienic false
namespace Mine.Lake
theorem A8{h b:Heap}{a x dx:Addr}(c:gI a h b)(d:x≠a):dictAt b x dx↔dictAt h x dx:=by
 unfold dictAt;exact Z (c.2 x d) Iff.rfl
theorem RH.nJ{X:Cx}{g:Heap}{s:cE}{H:U}{x C dx:Addr}{f n:At->V}{v:Heap}{t:Nat}(R:RH X g s H)(e:H x=some (.inst C f))(A:dictAt s.heap x dx)(h:gI dx s.heap v)(H':Wu v x C n):
  RH X g {s with heap:=v,toks:=t} (H.set x (.inst C n)):=by
 have B:=R.lE x C f dx e A;have m:∀{a o},H a=some o->a≠dx:=fun{a o} q z=>by rw[z,B]at q;cases q
 have i:g.get? dx=none:=R.new dx (.inr ⟨x,C,f,e,A⟩);have p:∀{y D k},(H.set x (.inst C n)) y=some (.inst D k)->∃D k,H y=some (.inst D k):=fun{y D k} q=>by
  by_cases d:y=x
  ·exact⟨C,f,d▸e⟩
  ·rw[U.aC _ _ d]at q;exact⟨D,k,q⟩
 have c:∀{a},(H.set x (.inst C n)) a≠none->H a≠none:=fun{a} q=>by
  by_cases d:a=x
  ·exact Z d (Z e (fun z=>nomatch z))
  ·rwa [U.aC _ _ d]at q
 refine⟨R.good,fun b o q=>(h.2 b (fun z=>by rw[z,i]at q;cases q)).trans (R.keep b o q),fun a o q=>?_,fun a q=>?_,fun y D k j q z=>?_,fun y z D r k u j q l w ad=>?_,R.gens,R.drawn,R.os⟩
 ·by_cases E:a=x
  ·subst E;rw[U.ak]at q;cases q;exact H'
  ·rw[U.aC _ _ E]at q;refine(R.own a o q).up (fun Y z=>(h.2 a (m q)).trans z) fun D k K j N z w=>(h.2 j fun L=>?_).trans w;subst L K;exact E (R.inj a x D C k f j q e z A)
 ·rcases q with q|⟨y,D,k,q,z⟩
  ·exact R.new a (.inl (c q))
  ·exact CL (p q) fun r u l=>R.new a (.inr ⟨y,r,u,l,(A8 h (m l)).mp z⟩)
 ·refine CL (p q) fun r u l=>?_;have xs:=(A8 h (m l)).mp z;have:=R.lE y r u j l xs;by_cases d:j=x
  ·rw[d,e]at this;cases this
  ·exact Z (U.aC _ _ d) this
 ·exact CL (p q) fun Y Y F=>CL (p l) fun Y Y G=>R.inj y z _ _ _ _ j F G ((A8 h (m F)).mp w) ((A8 h (m G)).mp ad)
noncomputable def IZ:bI->Bool
 |.inst ..=>false
 |_=>true
theorem RH.jC{X:Cx}{g:Heap}{s:cE}{H:U}{a:Addr}{o o':bI}{n:Heap}{t:Nat}(R:RH X g s H)(e:H a=some o)(p:IZ o=true)(r:IZ o'=true)(h:gI a s.heap n)(B:lw X n a o'):
  RH X g {s with heap:=n,toks:=t} (H.set a o'):=by
 have i:g.get? a=none:=R.new a (.inl (Z e (fun z=>nomatch z)));have x:∀{C f},H a≠some (.inst C f):=fun{C f} q=>by rw[e]at q;cases q;cases p
 have m:∀{y D k},(H.set a o') y=some (.inst D k)->y≠a/\H y=some (.inst D k):=fun{y D k} q=>by
  by_cases c:y=a
  ·rw[c,U.ak]at q;cases q;cases r
  ·rw[U.aC _ _ c]at q;exact⟨c,q⟩
 have d:∀{b},(H.set a o') b≠none->H b≠none:=fun{b} q=>by
  by_cases c:b=a
  ·exact Z c (Z e (fun z=>nomatch z))
  ·rwa [U.aC _ _ c]at q
 refine⟨R.good,fun b u q=>(h.2 b (fun z=>by rw[z,i]at q;cases q)).trans (R.keep b u q),fun b u q=>?_,fun b q=>?_,fun y D k j q z=>?_,fun y z D L k xs j q l w E=>?_,R.gens,R.drawn,R.os⟩
 ·by_cases v:b=a
  ·subst v;rw[U.ak]at q;cases q;exact B
  ·rw[U.aC _ _ v]at q;refine(R.own b u q).up (fun Y z=>(h.2 b v).trans z) fun D k p j N z w=>(h.2 j fun F=>?_).trans w;subst F p;have:=R.lE b D k j q z;rw[e]at this;cases this
 ·rcases q with q|⟨y,D,k,q,z⟩
  ·exact R.new b (.inl (d q))
  ·exact aV (m q) fun c l=>R.new b (.inr ⟨y,D,k,l,(A8 h c).mp z⟩)
 ·refine aV (m q) fun c l=>?_;have G:=(A8 h c).mp z;have:=R.lE y D k j l G;by_cases A:j=a
  ·rw[A,e]at this;cases this
  ·exact Z (U.aC _ _ A) this
 ·exact aV (m q) fun c H'=>aV (m l) fun ad K=>R.inj y z _ _ _ _ j H' K ((A8 h c).mp w) ((A8 h ad).mp E)
noncomputable def upd(f:At->V)(k:At)(v:V):At->V:=fun j=>if j=k then v else f j
structure Gw(K:Frag)(C:Addr):Prop where
 cls:∃cd,clsIn K C=some cd/\cd.hasDict=true
 ga:kF K (.ref C) "__getattribute__"=some (some (.builtin "object.__getattribute__"))
 gt:kF K (.ref C) "__getattr__"=some none
 sa:kF K (.ref C) "__setattr__"=some (some (.builtin "object.__setattr__"))
 plain:plainOver K C=true
 makes:makesIn K C=true
 attr:∀k:At,kF K (.ref C) k.s=some none
theorem NS{name:Str}{o:Obj}{es:Array DictEntry}{b:Nat}{m:Str->Option bm}(c:o.data=.dict es b)(d:StrKeys es)(f:∀n,nsFind es n=m n):lookIn name o=some (m name):=by
 unfold lookIn;refine Z c ?_;have:=f name;unfold nsFind findBy at this;rw[<-Array.find?_toList]at this;dsimp only;cases q:es.toList.find? (fun e=>e.key.isStr name)with
 |some e=>
  have a:=q;rw[a]at this;refine Z (ap this) ?_;rfl
 |none=>
  have a:=q;rw[a]at this;have g:es.toList.any (·.refKey)=false:=by
   refine Z (propext pw) ?_;intro e i;refine CL (d e (Array.mem_toList_iff.mp i)) fun n t h=>?_;simp[DictEntry.refKey,h]
  dsimp only;refine Z g (Z (ap this) ?_);rfl
theorem VR.handed{v:bm}{a:V}(r:VR v a)(h:∀n,a≠.blt n):handedIn v=true:=by
 cases a with
 |blt n=>exact absurd rfl (h n)|aa=>exact r.elim|int i=>refine AA r fun t b=>?_;subst b;rfl
 |str i=>refine AA r fun t b=>?_;subst b;rfl
 |_=>cases r;rfl
theorem o9.get{o:Option bm}{a:V}(r:o9 o a)(h:a≠.aa):∃v,o=some v/\VR v a:=by
 cases a with
 |aa=>exact absurd rfl h|_=>exact r
theorem OU{K:Frag}{C:Addr}{a:Obj}{k:At}{v:bm}(Ab:Gw K C)(c:lookIn k.s a=some (some v)):findObj K C (some a) k.s=some (.value v):=Ad Ab.cls fun b d f=>by
 have e:ownOf b (some a) k.s=some (some v):=by unfold W.ownOf;exact Z (if_pos f) c
 unfold findObj;refine Z d (Z (Ab.attr k) ?_);show(ownOf b (some a) k.s).bind _=_;exact Z e rfl
section
variable{X:Cx}{d:Nat}{H:U}
variable{C:Addr}{Q:V->U->Prop}
theorem Nk{x:Addr}{f:At->V}{k:At}{expr:Bool}(Ab:Gw X.K C)(e:H x=some (.inst C f))(a:f k≠.aa)(b:∀n,f k≠.blt n)(q:Q (f k) H):
  PT X d H (getAttr (.ref x) k.s expr) VR Q:=fun A g s u R=>by
 obtain⟨w,y,c,z,⟨h,es,B,i,j,l,_,m⟩,_,o⟩:=R.own x _ e;refine Ad ((o k).get a) fun v p r=>?_;have t:lookIn k.s h=some (some v):=by refine Z (ap p) ?_;exact NS j l m
 exact get_value R.dN.1 ⟨c,rfl,rfl,i⟩ Ab.ga (OU Ab t) (r.handed b) ⟨f k,H,r,R.toks _,q⟩
theorem W5(f:At->V)(k:At)(v:V):upd f k v k=v:=if_pos rfl
theorem o9.of{v:bm}{a:V}(r:VR v a):o9 (some v) a:=by
 cases a with
 |aa=>exact r.elim|_=>exact⟨v,rfl,r⟩
theorem NA{x:Addr}{f:At->V}{k:At}{v:bm}{a:V}{Q:Unit->U->Prop}(Ab:Gw X.K C)(e:H x=some (.inst C f))(r:VR v a)(q:Q () (H.set x (.inst C (upd f k a)))):
  PT X d H (setAttr (.ref x) k.s v) (fun w w=>True) Q:=fun A g s hA R=>by
 obtain⟨dx,mA,e1,ne,n1,hw,ha⟩:=R.own x _ e;refine Cb (id n1) fun od es ep e2 zr=>Bt zr fun e3 e4 w e5=>?_;have XK:=R.dN.1;have H':W.InstAt s.heap x (ko C dx) C (some od):=⟨e1,rfl,rfl,e2⟩
 refine set_plain XK H' Ab.sa ?_;have I':W.InstAt ({s with toks:=s.toks+1}).heap x (ko C dx) C (some od):=H';refine osa_open XK I' Ab.plain (by unfold takerIn;refine Z (Ab.attr k) ?_;rfl) fun b=>?_;refine Ad Ab.cls fun cd hc hd'=>af (aE (af (af (wpAny_loadPart e1 ?_))));have L1:Looks (eA X.prog X.w) ({s with toks:=s.toks+1}).heap (classData C) cd:=looks_clsIn XK hc;refine af (L1.here (Z hd' (aE (af (aE (af (wpAny_nsSet1 n1 fun h' hn' hs=>Br (hn'.count (Within.cons k.s v hw)) fun oD esD epD hoD hdD hcD=>af (wpAny_lookBehind hoD (by refine Z hdD ?_;exact pastItsLine_dict (ab hcD (by refine Z d4 (Z (ac ..) (Z rS ?_));decide))) ?_))))))));refine aE ⟨(),_,trivial,R.nJ e ⟨_,e1,rfl⟩ hs ⟨dx,_,(hs.2 x (kl ne)).trans e1,ne,hn',?_,fun j=>?_⟩,q⟩
 ·intro y hy;by_cases hk:y=k.s
  ·exact Z hk (oy k.jt)
  ·exact hw y (by simpa[hk]using hy)
 ·by_cases hj:j=k
  ·subst hj;refine Z (W5 ..) ?_;simp only[if_true];exact o9.of r
  ·have:j.s≠k.s:=fun z=>hj (At.qF z);unfold upd;refine Z (if_neg hj) ?_;simp only[if_neg this];exact ha j
def Ey(K:Frag):bm->Prop
 |.ref a=>(∃c b d sl,K.lookup a=some ⟨c,b,.func d,sl⟩)\/((∃c b e sl,K.lookup a=some ⟨c,b,.cls e,sl⟩)/\nL K (.ref a) "__call__"=some (some (.builtin "type.__call__")))
 |.builtin _=>True
 |.type _=>True
 |_=>False
variable{xs:Model}{A:iL}{E:bm->cE->Prop}{s:cE}
variable{f:bm}
theorem To{K:Frag}(X:K.In s.heap)(C:Ey K f):∃k,(k=Keeper.frame\/k=.machine)/\Looks xs s.heap (keeperOf f) k:=by
 cases f with
 |builtin i=>exact⟨.machine,.inr rfl,Looks.of_pure rfl⟩|type i=>exact⟨.machine,.inr rfl,Looks.of_pure rfl⟩|ref a=>
  rcases C with⟨c,b,h,d,e⟩|⟨⟨c,b,j,d,e⟩,g⟩
  ·exact⟨.frame,.inl rfl,fun A Q E s k q=>(af (wpAny_load (k _ _ (X _ _ e)) (aE q)))⟩
  ·exact⟨.machine,.inr rfl,fun A Q E s k q=>(af (wpAny_load (k _ _ (X _ _ e)) (af ((looks_specialIn X g) A _ E s k (aE q)))))⟩
 |_=>exact C.elim
variable{pos:Pos}
theorem I4{K:Frag}{first:List bm}{trees:List (Bool×Sem bm)}{Q:bm->cE->Prop}(C:Ey K f)(e:trees.any (·.1)=false)
  (h:dy xs A (mr trees) (fun vs aac=>K.In aac.heap/\dy xs A (call f (first++vs)) Q E aac) E s):dy xs A (callWith pos f first trees []) Q E s:=by
 unfold callWith;have c:∀{t:Sem bm} {aac},dy xs A t Q E aac->dy xs A (t >>= fun r=>mx [r] point >>= fun y=>pure r) Q E aac:=
  fun e=>af (db e (fun r i j=>af (eT (wpAny_point (aE j)))) fun y y x=>x)
 have l:dy xs A (evalArgs f true trees []) (fun a aac=>K.In aac.heap/\dy xs A (call f (first++a.pos) a.kw) Q E aac) E s:=by
  cases trees with
  |nil=>
   unfold evalArgs;exact af (db h (fun vs aac z=>af (aE (eT (af (aE (af (aE (aE z)))))))) fun y y x=>x)
  |cons t r=>
   obtain⟨b,x⟩:=t;have m:b=false:=by simp at e;exact e.1
   subst m;exact Calls.evalArgs_plain h
 refine af (eT (db l (fun a aac g=>aV g fun n d=>af (js (Z e (Ad (To n C) fun k o L=>af (L.here ?_))))) fun y y x=>x));rcases o with rfl|rfl
 ·exact eh (fun p=>c d) fun p=>c (by unfold callMarked;exact wpAny_keep d)
 ·exact c d
inductive bu where
 |next|brk|cont|ret (v:V)
def iY:Flow->bu->Prop
 |.next,.next=>True
 |.brk,.brk=>True
 |.cont,.cont=>True
 |.ret v,.ret a=>VR v a
 |_,_=>False
noncomputable def bu.val:bu->V
 |.ret v=>v
 |_=>.none
def YA(X:Cx)(g:Heap)(Q:V->U->Prop)(r:Result)(a:cE):Prop:=match r with
 |.ok (.ret v)=>Ps X g VR Q v a
 |_=>False
def CT(X:Cx)(d:Nat)(H:U)(a:bm)(vs:List bm)(Q:V->U->Prop):Prop:=
 ∀A g s,iw d A->RH X g s H->mB (eA X.prog X.w) A (.call a ⟨vs,[]⟩) (YA X g Q) s
variable{vs:List bm}
theorem CT.pt{a:bm}(h:CT X d H a vs Q):PT X d H (PySem.call a vs) VR Q:=
 fun A g s b R=>wpAny_call (iA (h A g s b R) fun r c z=>by
  rcases r with e|(v|_|_|_)<;>exact z)
def Calls(X:Cx)(d:Nat)(H:U)(f:V)(a:List V)(Q:V->U->Prop):Prop:=
 ∀b c,VR b f->cj c a->Ey X.K b/\PT X d H (PySem.call b c) VR Q
def aG(X:Cx)(d:Nat)(H:U)(f:V)(a:List V)(Q:V->U->Prop):Prop:=
 ∀b c,VR b f->cj c a->Ey X.K b/\CT X d H b c Q
theorem aG.calls{f:V}{a:List V}(h:aG X d H f a Q):Calls X d H f a Q:=fun b c r e=>⟨(h b c r e).1,(h b c r e).2.pt⟩
variable{own:Bool}{env:Env}{m:List V}
theorem PT.lower{b c:Type}{t:Sem b}{a:b->c->Prop}{Q:c->U->Prop}{e:Nat}(h:PT X e H t a Q)(q:e<=d):PT X d H t a Q:=fun A g s f R=>h A g s (f.mono q) R
theorem Calls.lower{f:V}{a:List V}{e:Nat}(h:Calls X e H f a Q)(q:e<=d):Calls X d H f a Q:=fun b c r g=>⟨(h b c r g).1,(h b c r g).2.lower q⟩
variable{es:List Expr}
theorem HB(a:es.all (fun e=>!isStarred e)=true):(kD pos (ix es env)).any (·.1)=false:=by
 induction es with
 |nil=>rfl|cons e r b=>
  simp only[List.all_cons,be,lT]at a;refine Z (Ex a.1) (Z GA (Z kK (Z (b a.2) ?_)));rfl
theorem MM{o:V}{first:List bm}{fa:List V}(t:VR f o)(u:cj first fa)(w:es.all (fun e=>!isStarred e)=true)
  (C:Ey X.K f)
  (h:ET X d H own env m (mr (kD pos (ix es env))) cj fun k a=>Calls X d a o (fa++k) Q) :
  ET X d H own env m (callWith pos f first (kD pos (ix es env)) []) VR Q:=fun A g s p R S F=>by
 refine I4 C (HB w) (h.use p R S F (fun y i k a z b j q=>⟨b.dN.1,?_⟩));have n:∀{l:List bm} {c},cj l c->cj (l++y) (c++k):=by
  intro l;induction l with
  |nil=>intro c r;cases c with|nil=>exact z|cons _ _=>exact r.elim
  |cons v l B=>intro c r;cases c with|nil=>exact r.elim|cons x c=>exact⟨r.1,B r.2⟩
 exact((q f _ t (n u)).2).et A g i p b S j
theorem z7{x:Str}{p:Pos}(t:es.all (fun e=>!isStarred e)=true)
  (h:ET X d H own env m (eval (.Name x p) env) VR fun k a=>(∀n,VR n k->Ey X.K n)/\ET X d a own env m (mr (kD pos (ix es env))) cj fun u b=>Calls X d b k u Q) :
  ET X d H own env m (eval (.Call (.Name x p) es [] pos) env) VR Q:=fun A g s o R S F=>
 Call_Name rfl (h.use o R S F (fun f c k a r i j l=>aV l fun C q=>(MM (first:=[]) (fa:=[]) r trivial t (C f r) q) A g c o i S j))
structure rC(K:Frag)(fa:Addr)(ps:List Str)(body:List Stmt)(scope:Scope):Prop where
 ex:∃oc od fd osl,K.lookup fa=some ⟨oc,od,.func fd,osl⟩/\(∀vs:List bm,vs.length=ps.length->bindArgs fd ⟨vs,[]⟩=pure (ps.zip vs))/\fd.body=.stmts body/\fd.scope=scope/\fd.globals=mu /\
  fd.closure=[]/\fd.builtins=builtinsNs/\codeIn K fd.code fd.qualname=true
structure jr(scope:Scope)(ps:List Str):Prop where
 kind:scope.kind=.function
 co:scope.isCoroutine=false
 gen:scope.isGenerator=false
 nodup:(scope.names.map (·.1)).Nodup
 pre:∀(i:Nat) (x:Str),ps[i]?=some x->∃k,scope.names[i]?=some (x,k)/\(k=NameKind.local\/k=hJ)
 m5:∀x∈scope.names,x.2≠.free
 len:ps.length<=scope.names.length
theorem RH.extend{g:Heap}(R:RH X g s H){j:Heap}{t:Nat}(k:∀b o,s.heap.get? b=some o->j.get? b=some o):RH X g {s with heap:=j,toks:=t} H:=by
 have i:∀{x o c},H x=some o->(dictAt j x c↔dictAt s.heap x c):=fun{x o c} e=>by
  refine AA (R.there e) fun m q=>?_;constructor
  ·rintro⟨h,d,z⟩;rw[k _ _ q]at d;cases d;exact⟨m,q,z⟩
  ·rintro⟨h,d,z⟩;exact⟨h,k _ _ d,z⟩
 refine⟨R.good,fun b o e=>k _ _ (R.keep b o e),fun a o e=>(R.own a o e).up (fun w e=>k _ _ e) fun w w w w w w e=>k _ _ e,fun a q=>?_,
  fun x C f c e q=>R.lE x C f c e ((i e).mp q),fun x y C D f n c e l q d=>R.inj x y C D f n c e l ((i e).mp q) ((i l).mp d),R.gens,R.drawn,R.os⟩
 rcases q with q|⟨x,C,f,e,q⟩
 ·exact R.new a (.inl q)
 ·exact R.new a (.inr ⟨x,C,f,e,(i e).mp q⟩)
variable{a:Addr}
theorem RH.fj{g:Heap}(R:RH X g s H)(q:AY s.heap H a):a<s.heap.objs.size:=by
 rcases q with q|⟨x,C,f,e,q⟩
 ·cases e:H a with
  |none=>exact absurd e q|some o=>refine AA (R.there e) fun c z=>?_;exact dt z
 ·obtain⟨d,k,h,l,⟨m,_,_,i,_⟩,w,n⟩:=R.own _ _ e;refine Ad q fun c b j=>?_;rw[h]at b;cases b;obtain rfl:=ag j;exact dt i
theorem RH.bJ{g:Heap}(R:RH X g s H){c:Heap}(k:∀b o,s.heap.get? b=some o->c.get? b=some o)(q:AY c H a):AY s.heap H a:=by
 rcases q with q|⟨x,C,f,e,q⟩
 ·exact .inl q
 ·refine AA (R.there e) fun h w=>Ad q fun i d z=>?_;rw[k _ _ w]at d;cases d;exact .inr ⟨x,C,f,e,h,w,z⟩
theorem Qe{a:Str->Option ce}{y:Str}{l:List (Str×bm)}:∀{m:Str->Option bm},y∉l.map (·.1)->bindL a l m y=m y:=by
 induction l with
 |nil=>intro m h;exact rfl
 |cons p r b=>intro m h;exact(b fun q=>h (.tail _ q)).trans ((Decidable.em (a p.1=some uk)).elim (fun c=>Z (if_pos c) (if_neg fun e=>h (List.mem_cons.mpr (.inl e)))) fun c=>Z (if_neg c) rfl)
theorem P8{a:Str->Option ce}{y:Str}{l:List (Str×bm)}:∀{m:Str->Option bm},y∉l.map (·.1)->bindC a l m y=m y:=by
 induction l with
 |nil=>intro m h;exact rfl
 |cons p r b=>intro m h;exact(b fun q=>h (.tail _ q)).trans ((Decidable.em (a p.1=some uk)).elim (fun c=>Z (if_pos c) rfl) fun c=>Z (if_neg c) (if_neg fun e=>h (List.mem_cons.mpr (.inl e))))
variable{ps:List Str}
theorem N1(h:vs.length=ps.length):(ps.zip vs).map (·.1)=ps:=by
 induction ps generalizing vs with
 |nil=>rfl|cons p ps a=>cases vs with|nil=>cases h|cons v vs=>simp[a (h9 h)]
theorem W9{a:Str->Option ce}:∀{vs:List bm} {m:Str->Option bm} {i:Nat} {x:Str},ps.Nodup->vs.length=ps.length->ps[i]?=some x->a x=some uk->bindL a (ps.zip vs) m x=vs[i]?:=by
 induction ps with
 |nil=>intro vs m i x c b h d;exact absurd (congrArg hU h) fg
 |cons p ps e=>
  intro vs m i x c b h d;cases vs with
  |nil=>exact absurd b.symm (kc _)|cons v vs=>
   cases i with
   |zero=>
    obtain rfl:=ag h;exact(Qe (Z (N1 (h9 b)) (cr.mp c).1)).trans (Z (if_pos d) (if_pos rfl))
   |succ i=>exact e (cr.mp c).2 (h9 b) h d
theorem U3{a:Str->Option ce}:∀{vs:List bm} {m:Str->Option bm} {i:Nat} {x:Str},ps.Nodup->vs.length=ps.length->ps[i]?=some x->a x=some .cell->bindC a (ps.zip vs) m x=vs[i]?:=by
 induction ps with
 |nil=>intro vs m i x c b h d;exact absurd (congrArg hU h) fg
 |cons p ps e=>
  intro vs m i x c b h d;cases vs with
  |nil=>exact absurd b.symm (kc _)|cons v vs=>
   cases i with
   |zero=>
    obtain rfl:=ag h;exact(P8 (Z (N1 (h9 b)) (cr.mp c).1)).trans (Z (if_neg fun q=>absurd (d.symm.trans q) (dd rfl)) (if_pos rfl))
   |succ i=>exact e (cr.mp c).2 (h9 b) h d
variable{M:List V}{x:V}
theorem cj.get(h:cj vs M){i:Nat}(a:M[i]?=some x):∃v,vs[i]?=some v/\VR v x:=by
 induction vs generalizing M i with
 |nil=>cases M with|nil=>simp at a|cons _ _=>exact h.elim
 |cons v vs b=>
  cases M with
  |nil=>exact h.elim|cons y M=>
   cases i with
   |zero=>simp at a;subst a;exact⟨v,rfl,h.1⟩
   |succ i=>rw[sj]at a ⊢;exact b h.2 a
set_option tactic.hygienic true in
theorem NC{names:List (Str×ce)}:∀{n:Nat} {acc:List (Str×Addr)} {x:Str},((x,hJ)∈names\/(∃c,(x,c)∈acc))->∃c,(x,c)∈cellsFrom n names acc:=by
 induction names with
 |nil=>intro n acc x h;rcases h with h|h;cases h;exact h
 |cons p r a=>
  obtain⟨y,k⟩:=p;intro n acc x h;unfold cellsFrom;split
  ·rename_i b;refine a ?_;rcases h with h|⟨c,h⟩
   ·rcases bg.mp h with e|h
    ·cases e;exact .inr ⟨n,.head _⟩
    ·exact .inl h
   ·exact .inr ⟨c,.tail _ h⟩
  ·rename_i b;refine a ?_;rcases h with h|h
   ·rcases bg.mp h with e|h
    ·cases e;exact absurd rfl b
    ·exact .inl h
   ·exact .inr h
theorem Dk{a:Type}{l:List (Str×a)}{x:Str}{c:a}(h:(x,c)∈l):∃c',l.lookup x=some c':=by
 induction l with
 |nil=>cases h
 |cons p r b=>
  obtain⟨y,k⟩:=p;refine Z e9 ?_;cases q:(x==y)with
  |true=>exact⟨k,rfl⟩|false=>
   rcases bg.mp h with e|h
   ·cases e;simp at q
   ·exact b h
theorem Uf{fa:Addr}{ad:List Stmt}{scope:Scope}{b:List V}(f:rC X.K fa ps ad scope)(Ab:jr scope ps)(hl:b.length=ps.length)
  (h:∀env,env.scope=scope->ST X d H true env (b++f6 (scope.names.length-b.length) .aa) (ot ad env) iY fun fl I m'=>Q fl.val I) :
  aG X (d+1) H (.ref fa) b Q:=by
 intro cf vs rf rs;obtain rfl:cf=.ref fa:=rf;refine L7 (f.ex) fun oc od B osl hK hb N l hgl W hbi P=>⟨.inl ⟨_,_,_,_,hK⟩,fun A g s hA R=>?_⟩
 have G:vs.length=ps.length:=rs.length.trans hl;have XK:=R.dN.1;have T:=R.good.2.keeps R.keep;have ws:ps.Nodup:=by
  refine Z (propext lm) (Z (propext ic) ?_);intro i j m hj hij e;refine Ad (Ab.pre i ps[i] (ck m)) fun k1 w Y=>Ad (Ab.pre j ps[j] (ck hj)) fun k2 H' Y=>?_;have ws:=Ab.nodup;rw[lm,ic]at ws;refine AA (av.mp w) fun l1 e1=>AA (av.mp H') fun l2 e2=>?_;have:=ws i j (by simpa using l1) (by simpa using l2) hij;simp only[ka,e1,e2]at this;exact this e
 have zf:=N1 G;have kd:∀i x,ps[i]?=some x->B.scope.names.lookup x=some uk\/B.scope.names.lookup x=some .cell:=fun i x m=>by
  refine Z l (Ad (Ab.pre i x m) fun k w H'=>?_);have:=Dd Ab.nodup w;rcases H' with rfl|rfl
  ·exact .inl this
  ·exact .inr this
 refine codeAny_call_cells (binds:=ps.zip vs) hA.room (XK _ _ hK) rfl T.nolimit (codeRec_of XK P) N (hb vs G) W (fun p hp=>?_) (fun aac x=>?_) (Z l Ab.co) (Z l Ab.gen) (Z l Ab.kind)
 ·obtain⟨y,v⟩:=p;have E:y∈ps:=zf▸oy hp;refine AA (d6 E) fun i m=>?_;rcases kd i y m with q|q
  ·exact .inl q
  ·refine .inr ⟨q,(AA (NC (n:=s.heap.objs.size+1) (acc:=[]) (.inl (mem_of_lookup q))) fun c u=>AA (Dk u) fun c' hc'=>Z hc' ?_)⟩;rfl
 ·refine CL x.toInCall.same fun C tk zq2=>?_;subst zq2;have rL:RH X g {s with heap:=C,toks:=tk} H:=R.extend x.toInCall.keep;have hL:(o0 B s.heap.objs.size fa).locals=s.heap.objs.size:=rfl;have L:∀a,s.heap.objs.size<=a->g.get? a=none:=fun a ha=>by
   cases e:g.get? a with
   |none=>rfl|some o=>exact absurd (dt (R.keep _ _ e)) (i3.mpr ha)
  have xs:∀a,s.heap.objs.size<=a->¬AY C H a:=fun a ha q=>i3.mpr ha (R.fj (R.bJ x.toInCall.keep q));have t:(o0 B s.heap.objs.size fa).scope=scope:=l;have AH:∀y c,(o0 B s.heap.objs.size fa).cells.lookup y=some c->s.heap.objs.size<c:=fun y c u=>x.above y c (mem_of_lookup u);have cl:∀y,(y,hJ)∈scope.names->∃c,(o0 B s.heap.objs.size fa).cells.lookup y=some c:=fun y E=>by
   refine AA (NC (n:=s.heap.objs.size+1) (acc:=[]) (.inl E)) fun c u=>?_;rw[<-l]at u;exact Dk u
  have S:FS true g (o0 B s.heap.objs.size fa):=by
   refine⟨hgl,hbi,by refine Z t ?_;exact Ab.kind,by refine Z t ?_;exact Ab.nodup,L _ (ai _),fun Y y E=>?_,fun Y y z c E hz w H'=>?_,fun y k E aj=>?_⟩
   ·rw[t]at E;exact AA (cl y E) fun c u=>⟨c,u,L c (dk (AH y c u)),mT (AH y c u)⟩
   ·exact name_of_addr x.apart (mem_of_lookup w) (mem_of_lookup H')
   ·rw[t]at E;rcases aj with rfl|⟨_,q⟩
    ·exact absurd rfl (Ab.m5 _ E)
    ·cases q
  have F:FD true C H (o0 B s.heap.objs.size fa) (b++f6 (scope.names.length-b.length) .aa):=by
   have hlen:b.length<=scope.names.length:=hl▸Ab.len;have arg:∀i y k,scope.names[i]?=some (y,k)->(b++f6 (scope.names.length-b.length) V.aa).getD i .aa≠.aa->ps[i]?=some y/\∃v,vs[i]?=some v/\VR v ((b++f6 (scope.names.length-b.length) V.aa).getD i .aa):=fun i y k m hu=>by
    by_cases D:i<b.length
    ·have e1:(b++f6 (scope.names.length-b.length) V.aa).getD i .aa=b[i]:=by
      refine Z (eJ) (Z (ij D) (Z (ck D) ?_));rfl
     refine Z e1 ?_;have hp:i<ps.length:=hl▸D;refine Ad (Ab.pre i ps[i] (ck hp)) fun k' w Y=>?_;rw[m]at w;cases w;exact⟨ck hp,rs.get (ck D)⟩
    ·refine absurd (Z (eJ) (Z (hY (fh D)) (Z (List.getElem?_replicate) ?_))) hu;split<;>rfl
   refine⟨xs _ (ai _),fun Y y c Y u=>xs c (dk (AH y c u)),by refine Z t (Z ba (Z List.length_replicate ?_));exact ku hlen,⟨_,x.toInCall.ns,fun i y m hu=>?_⟩,fun i y k m aj=>?_⟩
   ·rw[t]at m;refine Cr (arg i y _ m hu) fun w v H' r=>⟨v,?_,r⟩
    rewrite[W9 ws G w];exact Z H' rfl;show B.scope.names.lookup y=_;exact Z l (Dd Ab.nodup m)
   ·rw[t]at m;have hk':k=.cell:=by
     rcases aj with aj|aj
     ·exact aj
     ·exact absurd aj (Ab.m5 _ (ay m))
    subst hk';refine AA (cl y (ay m)) fun c u=>⟨c,_,u,x.cell y c u,fun hu=>(Cr (arg i y _ m hu) fun w v H' r=>⟨v,?_,r⟩)⟩
    rewrite[U3 ws G w];exact Z H' rfl;show B.scope.names.lookup y=_;exact Z l (Dd Ab.nodup m)
  have hA':iw d (A.deeper (o0 B s.heap.objs.size fa)):=⟨hA.handled,by have:=hA.depth;show A.depth+1+d<990;exact tB this,by have:=hA.units;show A.units+3+40*d+400<kB;exact yh this⟩
  refine db (h _ t _ g _ hA' rL S F) (fun f s' zqz=>zqz.casesOn fun fl I m' r R' F' q=>?_) fun Y Y z=>z.elim;cases f with
  |ret v=>cases fl with
   |ret a=>exact⟨a,I,r,R',q⟩|_=>exact r.elim
  |_=>
   cases fl with
   |ret a=>exact r.elim|_=>exact⟨.none,I,rfl,R',q⟩
noncomputable def B2:Expr->Bool
 |.Call (.Name _ _) [] [] _=>false
 |_=>true
variable{o:Expr}
theorem Ge{a:Str}{w:Sem bm}(h:B2 o=true):attributeBase o a env w=w:=by
 cases o with
 |Call f b c p=>cases f with
  |Name _ _=>cases b with
   |nil=>cases c with
    |nil=>cases h
    |cons _ _=>rfl
   |cons _ _=>rfl
  |_=>rfl
 |_=>rfl
theorem vq{k:At}(t:B2 o=true)
  (h:ET X d H own env m (eval o env) VR fun a b=>∃x C f,a=.ref x/\b x=some (.inst C f)/\Gw X.K C/\f k≠.aa/\(∀n,f k≠.blt n)/\Q (f k) b) :
  ET X d H own env m (eval (.Attribute o k.s pos) env) VR Q:=fun A g s p R S F=>by
 refine Attribute_any_ (h.use p R S F (fun v c a b r i j l=>Br l fun x C f u e w=>Bt w fun Ab y z q=>?_)) ?_
 ·subst u;obtain rfl:=r;exact(Nk Ab e y z q).et A g c p i S j
 ·exact Z (arm_eval_Attribute ..) (Z (Ge t) rfl)
noncomputable def F8:Expr->Bool
 |.Slice ..=>false
 |_=>true
theorem CH{e:Expr}(h:F8 e=true)(o i:bm):subscripted e false o i=operate [o,i] (getItem o i):=by
 cases e<;>first|rfl|cases h
inductive Mt(H:U):V->V->V->Prop where
 |list {a:Addr} {M:List V} {i:Int} {v:V} (e:H a=some (.list M)) (h0:0<=i) (hz:i<2^63) (hx:M[i.toNat]?=some v):Mt H (.ref a) (.int i) v
 |tup {a:Addr} {M:List V} {i:Int} {v:V} (e:H a=some (.tup M)) (h0:0<=i) (hz:i<2^63) (hx:M[i.toNat]?=some v):Mt H (.ref a) (.int i) v
 |dict {a:Addr} {es:List (String×V)} {ep:Nat} {x:String} {v:V} (e:H a=some (.dict es ep)) (hx:es.lookup x=some v):Mt H (.ref a) (.str x) v
theorem cj.n8(h:cj vs M){i:Nat}(a:M[i]?=some x):∃v,vs.toArray[i]?=some v/\VR v x:=Ad (h.get a) fun v e r=>⟨v,by simpa using e,r⟩
theorem Ca{a b:String}(h:ae a=ae b):a=b:=by
 rw[hV,hV]at h;have:(a.toList.map rj)=b.toList.map rj:=by
  have:=congrArg (fun s:Str=>s.cps.toList) h;simpa using this
 have d:∀x y:Char,x.toNat=y.toNat->x=y:=fun x y e=>Char.ext (UInt32.toNat_inj.mp e);have f:∀l l':List Char,l.map rj=l'.map rj->l=l':=by
  intro l;induction l with
  |nil=>intro l' q;cases l' with|nil=>rfl|cons _ _=>cases q
  |cons c l g=>
   intro l' q;cases l' with
   |nil=>cases q
   |cons i l'=>
    rw[dr,dr]at q;injection q with j k;exact Z (d c i j) (Z (g l' k) rfl)
 exact String.ext_iff.mpr (f _ _ this)
theorem j5.find{b:List (Str×bm)}{es:List (String×V)}(h:j5 b es)(x:String):(∀v,es.lookup x=some v->∃c,valueAt b (ae x)=some c/\VR c v)/\(es.lookup x=none->valueAt b (ae x)=none):=by
 unfold valueAt;induction b generalizing es with
 |nil=>cases es with|nil=>exact⟨fun v h=>by simp at h,fun w=>rfl⟩|cons _ _=>exact h.elim
 |cons p r f=>
  obtain⟨k,c⟩:=p;cases es with
  |nil=>exact h.elim|cons q es=>
   obtain⟨y,a⟩:=q;refine Di h fun d g hr=>?_;subst d;refine aV (f hr) fun i j=>Z e9 (Z (m3) ?_);by_cases e:x=y
   ·subst e;simp only[beq_self_eq_true,decide_true];exact⟨fun v q=>⟨c,rfl,by cases q;exact g⟩,fun q=>by cases q⟩
   ·have l:ae y≠ae x:=fun z=>e (Ca z).symm;refine Z (beq_false_of_ne e) ?_;simp only[l,decide_false];exact⟨i,j⟩
theorem jh.mapOf{h:Heap}{es:List (String×V)}{b:Nat}(D:jh X h a es b):
  ∃f,h.MapOf (strKind X.prog X.w) a f/\(∀x v,es.lookup x=some v->∃c,f (ae x)=some c/\VR c v)/\(∀x,es.lookup x=none->f (ae x)=none):=Cr (D) fun z d D r=>⟨_,D.dictOf.mapOf,fun x=>(r.find x).1,fun x=>(r.find x).2⟩
theorem Ab9{h a:Expr}{o i v:V}{z B:bm}(n:F8 a=true)(p:VR z o)(u:VR B i)(S:Mt H o i v)(q:Q v H):PT X d H (subscriptTail h a z B) VR Q:=fun A g s G R=>by
 cases S with
 |list e x y k=>
  obtain rfl:=p;refine AA u fun t b=>?_;subst b;exact Ad (R.own _ _ e) fun D m r=>Ad (r.n8 k) fun c j l=>tail_any m.isList.typeIs q0.lookup (wpAny_getItem_list m.isList x y j ⟨v,H,l,R,q⟩) (CH n _ _)
 |tup e x y k=>
  obtain rfl:=p;refine AA u fun t b=>?_;subst b;refine Ad (R.own _ _ e) fun D m r=>Ad (r.get k) fun c j l=>item_tupleT m.isTup (by lia) y ?_ j ⟨v,H,l,R,q⟩ (CH n _ _);have E:=(av.mp j).1;unfold seqIndex?;have:=Int.not_lt.mpr x;simp only[this,if_false];exact Z (if_pos (by simp;lia)) rfl
 |dict e k=>
  obtain rfl:=p;refine AA u fun t b=>?_;subst b;exact Az (jh.mapOf (R.own _ _ e)) fun f C F w=>Ad (F _ _ k) fun c j l=>tail_any C.typeIs slot_dict_getitem.lookup (wpAny_getItem_of (qh X.prog X.w _ t) C j ⟨v,H,l,R.toks _,q⟩) (CH n _ _)
theorem wz{i:Expr}(w:F8 i=true)
  (h:ET X d H own env m (eval o env) VR fun a e=>ET X d e own env m (eval i env) VR fun b c=>∃v,Mt c a b v/\Q v c) :
  ET X d H own env m (eval (.Subscript o i pos) env) VR Q:=fun A g s r R S F=>
 sA (h.use r R S F (fun z u a e x f j k=>k.use r f S j (fun B l b c y n p t=>Ad t fun v ok q=>(Ab9 w x y ok q).et A g l r n S p)))
def aO(X:Cx)(H:U)(a:V)(name:Str)(f:V):Prop:=∀g s b,VR b a->RH X g s H ->
 ∃c,VR c f/\Ey X.K c/\∀(A:iL) (d:bm×List bm->cE->Prop) (E:bm->cE->Prop) (e:Sem Bool),d (c,[b]) s->dy (eA X.prog X.w) A (getMethod b name e) d E s
variable{name:Str}
theorem yO{apos:Pos}(hn:B2 o=true)(he:es.all (fun e=>!isStarred e)=true)(hl:es.length<30)(hp:(apos.endLine==pos.line)=true)
  (h:ET X d H own env m (eval o env) VR fun a aaa=>∃f:V,aO X aaa a name f /\
   ET X d aaa own env m (mr (kD pos (ix es env))) cj fun as aab=>Calls X d aab f (a::as) Q) :
  ET X d H own env m (eval (.Call (.Attribute o name apos) es [] pos) env) VR Q:=fun A g s hA R S F=>by
 refine Z (arm_eval_Call ..) (Z (Ge hn) (af (h.use hA R S F (fun vo aac a aaa ra aak aam zqz=>Ad zqz fun f hm hargs=>af (js (Az (hm g aac vo ra aak) fun cf rf C hm=>?_))))));have form:methodCallForm (es.length+([]:List q3).length) (kD pos (ix es env)) (backToKw pos (keywordEach [] env))=true:=by
  unfold methodCallForm;have:(kD pos (ix es env)).all (fun x=>!x.1)=true:=by
   have:=HB (env:=env) he (pos:=pos);refine Z List.all_eq_not_any_not ?_;simpa using this
  refine Z this ?_;exact decide_eq_true hl
 unfold methodCall;refine Z form (af (eT ?_));unfold calleeOf;refine Z (if_pos (Eq.refl true)) (hm _ _ _ _ (af ?_));unfold methodCallPos;exact Z hp (Z (if_pos (dd rfl:(!true||true)=true)) (aE (MM (first:=[vo]) (fa:=[a]) rf ⟨ra,trivial⟩ he C hargs A g aac hA aak S aam)))
structure DG(K:Frag)(C:Addr)(name:Str)(fa:Addr):Prop where
 find:kF K (.ref C) name=some (some (.ref fa))
 typ:typeIn K (.ref fa)=some (.type "function")
 fn:∃c dd fd sl,K.lookup fa=some ⟨c,dd,.func fd,sl⟩
 off:name∉At.all.map At.s
theorem aO.inst{x fa:Addr}{f:At->V}(Ab:Gw X.K C)(xs:DG X.K C name fa)(e:H x=some (.inst C f)):aO X H (.ref x) name (.ref fa):=fun g s c d R=>by
 obtain rfl:c=.ref x:=d;obtain⟨h,a,i,r,⟨b,es,t,j,k,l,_,m⟩,n,u⟩:=R.own x _ e;refine⟨.ref fa,rfl,.inl xs.fn,fun A w E y q=>?_⟩;have o:a name=none:=by
  cases p:a name with
  |none=>rfl|some v=>exact absurd (n name (Z p (fun z=>nomatch z))) xs.off
 have H':W.InstAt s.heap x (ko C h) C (some b):=⟨i,rfl,rfl,j⟩
 exact method_fn R.dN.1 H' Ab.ga Ab.gt xs.find xs.typ (by show(lookIn name b).map (·.isSome)=some false;refine Z (NS k l m) (Z o ?_);rfl) q
structure JC(K:Frag)(C fI:Addr):Prop where
 cls:Gw K C
 init:kF K (.ref C) "__init__"=some (some (.ref fI))
 typ:typeIn K (.ref fI)=some (.type "function")
 obj:∃c dd cd sl,K.lookup C=some ⟨c,dd,.cls cd,sl⟩
 call:nL K (.ref C) "__call__"=some (some (.builtin "type.__call__"))
noncomputable def LO:At->V:=fun z=>.aa
theorem GI{w:Addr}{j:List V}(N:JC X.K C w)
  (h:∀x,H x=none->aG X d (H.set x (.inst C LO)) (.ref w) (.ref x::j) fun v B=>v=.none/\Q (.ref x) B):aG X (d+1) H (.ref C) j Q:=by
 intro ws Ab rL rs;obtain rfl:ws=.ref C:=rL;refine⟨.inr ⟨N.obj,N.call⟩,fun A g s F R=>?_⟩;have G:=R.dN.1;obtain⟨c,P,S,t,T⟩:=s;refine make_core (makes_of G N.cls.makes) (looks_findIn G N.init) (fun self=>bind_fn G self N.typ) (.inl rfl) ?_;have hf:H c.objs.size=none:=R.fresh;have R1:=R.cQ fE;have H':H (c.objs.size+1)=none:=by
  have:=R1.fresh;rwa [oa]at this
 have e1:((c.push fE).push (ko C c.objs.size)).get? c.objs.size=some fE:=bt _ (cn _ rfl);have AH:((c.push fE).push (ko C c.objs.size)).get? (c.objs.size+1)=some (ko C c.objs.size):=by
  have:=cn (c.push fE) (o:=ko C c.objs.size) rfl;rwa [oa]at this
 have k:∀b o,c.get? b=some o->((c.push fE).push (ko C c.objs.size)).get? b=some o:=fun b o e=>bt _ (bt _ e);have n:RH X g ⟨(c.push fE).push (ko C c.objs.size),P,S,t,T⟩ H:=R.extend k;have R3:RH X g ⟨(c.push fE).push (ko C c.objs.size),P,S,t,T⟩ (H.set (c.objs.size+1) (.inst C LO)):=by
  have aj:∀a,c.objs.size<=a->g.get? a=none:=fun a l=>by
   cases e:g.get? a with
   |none=>rfl|some o=>exact absurd (dt (R.keep _ _ e)) (i3.mpr l)
  have i:∀{dx},dictAt ((c.push fE).push (ko C c.objs.size)) (c.objs.size+1) dx->dx=c.objs.size:=fun{dx} q=>by
   refine Ad q fun ob W q2=>?_;rw[AH]at W;cases W;exact(ag q2).symm
  have m:∀{x D f dx},H x=some (.inst D f)->dictAt ((c.push fE).push (ko C c.objs.size)) x dx->dx<c.objs.size:=fun{x D f dx} e q=>by
   have:AY c H dx:=R.bJ k (.inr ⟨x,D,f,e,q⟩);exact R.fj this
  have u:∀{x D f},(H.set (c.objs.size+1) (.inst C LO)) x=some (.inst D f)->x=c.objs.size+1\/(x≠c.objs.size+1/\H x=some (.inst D f)):=fun{x D f} e=>by
   by_cases ad:x=c.objs.size+1
   ·exact .inl ad
   ·rw[U.aC _ _ ad]at e;exact .inr ⟨ad,e⟩
  refine⟨R.good,n.keep,fun a o e=>?_,fun a q=>?_,fun x D f dx e q=>?_,fun x y D E f kk dx e p q L=>?_,R.gens,R.drawn,R.os⟩
  ·by_cases l:a=c.objs.size+1
   ·subst l;rw[U.ak]at e;cases e;exact⟨c.objs.size,fun Y=>none,AH,dL (eK _),(Heap.Ns1.of_empty ⟨_,#[],_,e1,rfl,fun Y he=>by simp at he,fun Y=>rfl⟩),fun y hy=>absurd rfl hy,fun k=>rfl⟩
   ·rw[U.aC _ _ l]at e;exact n.own a o e
  ·rcases q with q|⟨x,D,f,e,q⟩
   ·by_cases l:a=c.objs.size+1
    ·subst l;exact aj _ (ip _)
    ·rw[U.aC _ _ l]at q;exact n.new a (.inl q)
   ·rcases u e with rfl|⟨_,e⟩
    ·exact Z (i q) (aj _ (ai _))
    ·exact n.new a (.inr ⟨x,D,f,e,q⟩)
  ·rcases u e with rfl|⟨_,e⟩
   ·exact Z (i q) (Z (U.aC _ _ (dL (eK _))) hf)
   ·have lt:=m e q;exact Z (U.aC _ _ (dL (kt lt))) (n.lE x D f dx e q)
  ·rcases u e with rfl|⟨_,e⟩
   ·rcases u p with rfl|⟨_,p⟩
    ·rfl
    ·have:=m p L;rw[i q]at this;exact absurd this (dQ _)
   ·rcases u p with rfl|⟨_,p⟩
    ·have:=m e q;rw[i L]at this;exact absurd this (dQ _)
    ·exact n.inj x y D E f kk dx e p q L
 have xs:iw d (A.under (.builtin "type.__call__" ⟨.ref C::Ab,[]⟩)):=⟨F.handled,by have:=F.depth;show A.depth+1+d<990;exact tB this,by have:=F.units;show A.units+1+40*d+400<kB;exact s8 this⟩
 have z:=(h _ H' (.ref w) (.ref (c.objs.size+1)::Ab) rfl ⟨rfl,rs⟩).2 _ g _ xs R3;refine iA z fun r s' z=>?_;cases r with
 |error e=>exact z.elim|ok f=>cases f with
  |ret v=>
   obtain⟨b,B,r,R',rfl,q⟩:=z;exact⟨r,.ref (c.objs.size+1),B,rfl,R',q⟩
  |_=>exact z.elim
variable{va c:bm}{b:Int}
theorem TZ{a:Int}(e:VR va (.int a))(f:VR c (.int b))(q:Q (.int (a+b)) H):PT X d H (kC .Add va c) VR Q:=fun A g s h R=>by
 obtain⟨t,rfl⟩:=e;obtain⟨u,rfl⟩:=f;exact PyProof.Rows.add_int ⟨.int (a+b),H,⟨_,rfl⟩,R.toks _,q⟩
theorem TI{a:Int}(e:VR va (.int a))(f:VR c (.int b))(q:Q (.int (a-b)) H):PT X d H (kC .Sub va c) VR Q:=fun A g s h R=>by
 obtain⟨t,rfl⟩:=e;obtain⟨u,rfl⟩:=f;exact PyProof.Rows.sub_int ⟨.int (a-b),H,⟨_,rfl⟩,R.toks _,q⟩
theorem RM{a:Int}(e:VR va (.int a))(f:VR c (.int b))(q:Q (.int (a+b)) H):PT X d H (inplaceOp .Add va c) VR Q:=fun A g s h R=>by
 obtain⟨t,rfl⟩:=e;obtain⟨u,rfl⟩:=f;exact PyProof.Rows.iadd_int ⟨.int (a+b),H,⟨_,rfl⟩,R.toks _,q⟩
theorem KB(a b:String):ae a++ae b=ae (a++b):=by
 refine Z (hV ..) (Z (hV ..) (Z (hV ..) (Z String.toList_append (Z bP ?_))));show Str.mk _=Str.mk _;simp
theorem FG(a:String):(ae a).length=a.toList.length:=by
 refine Z (hV ..) ?_;simp[Str.length]
theorem Uq{a b:String}(e:VR va (.str a))(f:VR c (.str b))(h:a.toList.length+b.toList.length<=aT)(q:Q (.str (a++b)) H):PT X d H (kC .Add va c) VR Q:=fun A g s j R=>by
 obtain⟨t,rfl⟩:=e;obtain⟨u,rfl⟩:=f;exact PyProof.Rows.add_str (fun i k=>⟨.str (a++b),H,⟨i,by exact Z (KB ..) rfl⟩,R.toks _,q⟩) (Z (FG ..) (Z (FG ..) h))
theorem JK{op:mE}{e:bm}{a:Int}{c:Bool}(f:VR va (.int a))(h:VR e (.int b))
  (i:(op=.Lt/\c=decide (a<b))\/(op=.Gt/\c=decide (b<a))\/(op=.Eq/\c=decide (a=b))\/(op=.NotEq/\c=!decide (a=b))\/(op=.GtE/\c=decide (b<=a)))
  (q:Q (.bool c) H):PT X d H (gX op va e) VR Q:=fun A g s j R=>by
 obtain⟨t,rfl⟩:=f;obtain⟨u,rfl⟩:=h;rcases i with⟨rfl,rfl⟩|⟨rfl,rfl⟩|⟨rfl,rfl⟩|⟨rfl,rfl⟩|⟨rfl,rfl⟩
 ·exact PyProof.Rows.lt_int ⟨.bool _,H,rfl,R,q⟩
 ·exact PyProof.Rows.gt_int ⟨.bool _,H,rfl,R,q⟩
 ·exact PyProof.Rows.eq_int ⟨.bool _,H,by show Value.bool (a==b)=_;simp[BEq.beq],R,q⟩
 ·exact PyProof.Rows.ne_int ⟨.bool _,H,by show Value.bool (!(a==b))=_;simp[BEq.beq],R,q⟩
 ·exact PyProof.Rows.ge_int ⟨.bool _,H,rfl,R,q⟩
variable{ys:List V}
theorem cj.app{Y:List bm}(h:cj vs M)(k:cj Y ys):cj (vs++Y) (M++ys):=by
 induction vs generalizing M with
 |nil=>cases M with|nil=>exact k|cons _ _=>exact h.elim
 |cons v vs a=>cases M with|nil=>exact h.elim|cons x M=>exact⟨h.1,a h.2⟩
theorem UJ{b:bm}(e:H a=some (.list M))(h:VR f (.ref a))(i:VR b x)(j:M.length<=aT)(q:Q .none (H.set a (.list (M++[x])))):
  PT X d H (call (.builtin "list.append") [f,b]) VR Q:=fun A g s n R=>by
 obtain rfl:=h;obtain⟨k,l,r⟩:=R.own _ _ e;refine tA l (fun o c m=>⟨.none,_,rfl,R.jC (o':=.list (M++[x])) (t:=s.toks) e rfl rfl m ⟨k++[b],by simpa using c,r.app (Y:=[b]) (ys:=[x]) ⟨i,trivial⟩⟩,q⟩) (Z bE (Z r.length j))
theorem cj.snoc(h:cj vs (M++[x])):∃Y v,vs=Y++[v]/\cj Y M/\VR v x:=by
 induction M generalizing vs with
 |nil=>cases vs with
  |nil=>exact h.elim|cons v vs=>cases vs with
   |nil=>exact⟨[],v,rfl,trivial,h.1⟩|cons _ _=>exact h.2.elim
 |cons y M b=>cases vs with
  |nil=>exact h.elim|cons v vs=>
   refine Ay (b h.2) fun Y w a c d=>?_;obtain rfl:=a;exact⟨v::Y,w,rfl,⟨h.1,c⟩,d⟩
theorem Act{i:bm}(e:H a=some (.list (M++[x])))(m:VR i (.ref a))(o:M.length<aT)(q:Q x (H.set a (.list M))):
  PT X d H (call (.builtin "list.pop") [i]) VR Q:=fun A g s y R=>by
 obtain rfl:=m;obtain⟨z,⟨n,c⟩,r⟩:=R.own _ _ e;refine Ay (r.snoc) fun b v f j p=>?_;obtain rfl:=f;have k:(b++[v]).toArray.size-1=b.length:=by rw[bE,ba];rfl
 have u:(b++[v]).toArray[(b++[v]).toArray.size-1]?=some v:=by rw[k];simp
 have h:(b++[v]).toArray.size<=aT:=by rw[bE,ba,j.length];exact o
 have w:(b++[v]).toArray.eraseIdxIfInBounds ((b++[v]).toArray.size-1)=b.toArray:=by rw[k,kl_erase,aS]
 have l:(kG (fun M=>M.eraseIdxIfInBounds ((b++[v]).toArray.size-1)) ({cls:=.type "list",data:=.seq (b++[v]).toArray n}))={cls:=.type "list",data:=.seq b.toArray (n+1)}:=by
  unfold kG;dsimp only;rw[w];have:(b.toArray.size==(b++[v]).toArray.size)=false:=by rw[bE,bE,ba];simp
  rw[this];rfl
 refine sx PySem.F.slot_list_pop ⟨_,c,rfl⟩ PySem.F.entry_list_pop (PySem.F.args_list_pop_1 _) (PySem.MeetsSeq.list_pop_last a _ n v u h) ⟨c,x,_,p,R.jC (o':=.list M) (t:=s.toks) e rfl rfl (dT ..) ⟨b,⟨n+1,?_⟩,j⟩,q⟩;rw[f5 _ c (by rw[l];rfl),l]
theorem V6{b:Addr}{l m:bm}(e:H a=some (.list M))(p:H b=some (.list ys))(u:VR l (.ref a))(v:VR m (.ref b))(w:M.length+ys.length<=aT)
  (q:Q .none (H.set a (.list (M++ys)))):PT X d H (call (.builtin "list.extend") [l,m]) VR Q:=fun A g s B R=>by
 obtain rfl:=u;obtain rfl:=v;obtain⟨c,⟨n,j⟩,r⟩:=R.own _ _ e;obtain⟨h,⟨y,z⟩,o⟩:=R.own _ _ p;have f:c.toArray.size+h.toArray.size<=aT:=by rw[bE,bE,r.length,o.length];exact w
 have i:∃k,(kG (fun x=>x++h.toArray) ({cls:=.type "list",data:=.seq c.toArray n}))={cls:=.type "list",data:=.seq (c++h).toArray k}:=by
  unfold kG;dsimp only;exact⟨if(c.toArray++h.toArray).size==c.toArray.size then n else n+1,by simp⟩
 obtain⟨k,i⟩:=i;refine sx PySem.F.slot_list_extend ⟨_,j,rfl⟩ PySem.F.entry_list_extend (PySem.F.args_list_extend_2 _ _) (PySem.AutoSeq1.list_extend_list_list_0 a _ n b _ y ?_ (sC f) (hW f))
  ⟨j,z,.none,_,rfl,R.jC (o':=.list (M++ys)) (t:=s.toks) e rfl rfl (dT ..) ⟨c++h,⟨k,?_⟩,r.app o⟩,q⟩
 ·have:pk (c.toArray.size+h.toArray.size)=false:=decide_eq_false (i3.mpr f);rw[this,Bool.and_false];exact ax
 ·rw[f5 _ j (by rw[i];rfl),i]
theorem aO.list{id:String}(c:Slot "list" name id)(d:typeOf (.builtin id)=pure (.type "method_descriptor"))(e:H a=some (.list M)):aO X H (.ref a) name (.blt id):=fun g s i h R=>by
 obtain rfl:=h;obtain⟨j,⟨n,f⟩,r⟩:=R.own _ _ e;exact⟨.builtin id,rfl,trivial,fun A k E l q=>getMethod_builtin ⟨_,f,rfl⟩ PySem.F.plainAttrs_list c d (fun b z=>by cases z;exact⟨_,f,rfl⟩) q⟩
theorem QY{v:bm}(e:H a=some (.list M))(r:VR v (.ref a))(b:M.length<=aT)(q:Q (.int M.length) H):PT X d H (call (.builtin "len") [v]) VR Q:=fun A g s f R=>by
 obtain rfl:=r;obtain⟨h,c,r⟩:=R.own _ _ e;refine qn c.isList (Z bE (Z r.length (pB (ab b (dd rfl))))) ⟨.int M.length,H,⟨_,by exact Z bE (Z r.length rfl)⟩,R.toks _,q⟩
theorem RG{b:Addr}(l:VR va (.ref a))(m:VR f (.ref b))(e:H a=some (.list M))(o:H b=some (.list ys))(p:M.length+ys.length<=aT)
  (q:∀c,H c=none->Q (.ref c) (H.set c (.list (M++ys)))):PT X d H (kC .Add va f) VR Q:=fun A g s v R=>by
 obtain rfl:va=.ref a:=l;obtain rfl:f=.ref b:=m;obtain⟨i,⟨n,t⟩,r⟩:=R.own _ _ e;obtain⟨j,⟨w,u⟩,k⟩:=R.own _ _ o;have h:i.toArray.size+j.toArray.size<=aT:=Z bE (Z bE (Z r.length (Z k.length p)));exact PySem.P.add_list t u ⟨.ref s.heap.objs.size,_,rfl,R.push _ (.list (M++ys)) (fun y y z=>nomatch z) ⟨i++j,⟨0,by refine Z (cn _ rfl) ?_;simp⟩,r.app k⟩,q _ R.fresh⟩ h
theorem yG{a:Int}(f:VR va (.int a))(h:VR c (.int b))(e:0<b)(q:Q (.int (a%b)) H):PT X d H (kC .Mod va c) VR Q:=fun A g s i R=>by
 obtain⟨t,rfl⟩:=f;obtain⟨u,rfl⟩:=h;exact PyProof.Rows.mod_int' (kl (Int.ne_of_lt e)) ⟨.int (a%b),H,⟨_,by exact Z (Int.fmod_eq_emod_of_nonneg _ (Int.le_of_lt e)) rfl⟩,R.toks _,q⟩
theorem RK{e:bm}{a:Int}(h:VR va (.int a))(i:VR e (.int b))(f:0<b)(j:a.natAbs<2^60)(c:b.natAbs<2^29)(q:Q (.int (a/b)) H):PT X d H (kC .FloorDiv va e) VR Q:=fun A g s k R=>by
 obtain⟨t,rfl⟩:=h;obtain⟨u,rfl⟩:=i;exact PyProof.Rows.floordiv_int (kl (Int.ne_of_lt f)) ⟨.int (a/b),H,⟨_,by exact Z (Int.fdiv_eq_ediv_of_nonneg _ (Int.le_of_lt f)) rfl⟩,R.toks _,q⟩ (.inl (PyProof.noPylong_small (ee c (dd rfl))))
theorem Aci{a:Int}(e:VR va (.int a))(f:VR c (.int b))(i:a.natAbs<2^60)(h:b.natAbs<2^60)(q:Q (.int (a*b)) H):PT X d H (kC .Mult va c) VR Q:=fun A g s j R=>by
 obtain⟨t,rfl⟩:=e;obtain⟨u,rfl⟩:=f;exact PyProof.Rows.mul_int ⟨.int (a*b),H,⟨_,rfl⟩,R.toks _,q⟩
end
end Mine.Lake
end
section
open PySem PySem.W PySem.Calls PyProof.Rows PySem.Builtin PySem.Builtin.ObjectAttr PySem.SeqAt
set_option tactic.hygienic false
namespace Mine.Lake
structure ZK(K:Frag)(C:Addr):Prop where
 inst:∀{h:Heap} {x dx:Addr},K.In h->h.get? x=some (ko C dx)->h.CmpInst x C [.type "object"]
structure Zo(K:Frag)(C:Addr):Prop where
 g:plainGet K C "__class__"=true
 h:hasDictIn K C=true
 c:kF K (.ref C) "__class__"=some (some (.builtin "object.__class__"))
 s:nL K (.builtin "object.__class__") "__get__"=some (some (.builtin "getset_descriptor.__get__"))
 t:takesIn K (.builtin "object.__class__")=some true
 m:mroIn K C (.type "object")=some true
structure CX(X:Cx):Prop where
 cls:∀C,X.cm C=true->Gw X.K C
 cmp:∀C,X.cm C=true->ZK X.K C
 yu:∀C,X.cm C=true->Zo X.K C
noncomputable def DU(f:V->V->Option Bool):List V->List V->Option Bool
 |[],[]=>some true
 |x::M,y::ys=>match f x y,DU f M ys with
  |some a,some b=>some (a&&b)
  |_,_=>none
 |_,_=>none
theorem Gx{f:V->V->Option Bool}:DU f [] []=some true:=rfl
theorem CD{f:V->V->Option Bool}{x y:V}{M ys:List V}:DU f (x::M) (y::ys)=(match f x y,DU f M ys with|some a,some b=>some (a&&b)|_,_=>none):=rfl
noncomputable def dK(cm:Addr->Bool)(H:U):Nat->V->V->Option Bool
 |0,_,_=>none
 |n+1,a,b=>match a,b with
  |.none,.none=>some true
  |.bool x,.bool y=>some (x==y)
  |.int x,.int y=>some (decide (x=y))
  |.str x,.str y=>some (decide (x=y))
  |.none,.str _=>some false
  |.str _,.none=>some false
  |.none,.ref x=>match H x with
   |some (.tup _)=>some false
   |some (.list _)=>some false
   |_=>none
  |.ref x,.ref y=>match H x,H y with
   |some (.tup M),some (.tup ys)=>if M.length=ys.length then DU (dK cm H n) M ys else none
   |some (.list M),some (.list ys)=>if M.length=ys.length then DU (dK cm H n) M ys else some false
   |some (.inst C _),some (.inst D _)=>if cm C&&cm D then some (decide (x=y))else none
   |_,_=>none
  |_,_=>none
theorem SX{f:V->V->Option Bool}{x y:V}{M ys:List V}{k:Bool}(h:DU f (x::M) (y::ys)=some k):∃a b,f x y=some a/\DU f M ys=some b/\(a&&b)=k:=by
 rw[CD]at h;cases c:f x y with
 |none=>rw[c]at h;exact absurd (congrArg hU h) fg
 |some a=>cases d:DU f M ys with
  |none=>rw[c,d]at h;exact absurd (congrArg hU h) fg
  |some b=>rw[c,d]at h;exact⟨a,b,rfl,rfl,ag h⟩
theorem NB{f:V->V->Option Bool}(c:∀a k,f a a=some k->k=true){M:List V}:∀{k:Bool},DU f M M=some k->k=true:=by
 induction M with
 |nil=>exact fun h=>(ag h).symm
 |cons x M d=>exact fun h=>Ay (SX h) fun a b e g i=>by refine Z (ap i) (Z (c x a e) (Z (d g) ?_));rfl
theorem VX{cm:Addr->Bool}{H:U}{n:Nat}{y:Addr}:dK cm H (n+1) .none (.ref y)=(match H y with|some (.tup _)=>some false|some (.list _)=>some false|_=>none):=rfl
theorem DI{cm:Addr->Bool}{H:U}{n:Nat}{x y:Addr}:dK cm H (n+1) (.ref x) (.ref y)=(match H x,H y with
   |some (.tup M),some (.tup ys)=>if M.length=ys.length then DU (dK cm H n) M ys else none
   |some (.list M),some (.list ys)=>if M.length=ys.length then DU (dK cm H n) M ys else some false
   |some (.inst C _),some (.inst D _)=>if cm C&&cm D then some (decide (x=y))else none
   |_,_=>none):=rfl
theorem MI{cm:Addr->Bool}{H:U}{n:Nat}{x y:String}:dK cm H (n+1) (.str x) (.str y)=some (decide (x=y)):=rfl
theorem Jv{cm:Addr->Bool}{H:U}{n:Nat}{x y:Int}:dK cm H (n+1) (.int x) (.int y)=some (decide (x=y)):=rfl
theorem Y1{f:V->V->Option Bool}{M:List V}:∀{ys:List V} {k:Bool},DU f M ys=some k->∃e:Nat->Bool,(∀j x y,M[j]?=some x->ys[j]?=some y->f x y=some (e j))/\(ej M.length).all e=k/\M.length=ys.length:=by
 induction M with
 |nil=>intro ys k h;cases ys with
  |nil=>exact⟨fun z=>true,fun j x y h=>absurd (congrArg hU h) fg,ag h,rfl⟩|cons=>exact absurd (congrArg hU h) fg
 |cons x M g=>intro ys k h;cases ys with
  |nil=>exact absurd (congrArg hU h) fg|cons y ys=>
   refine Ay (SX h) fun a b i l m=>Az (g l) fun e n o p=>⟨fun j=>l6 j a e,fun j q r c d=>?_,?_,congrArg Nat.succ p⟩
   ·cases j with
    |zero=>refine Z (ap (ag c)) (Z (ap (ag d)) ?_);exact i
    |succ j=>exact n j q r c d
   ·refine Z d4 (Z sm (Z List.all_cons (Z List.all_map (Z (ap m) (Z (ap o) ?_)))));rfl
structure Dg(A:iL)(s:cE)(a b:bm)(k:Bool):Prop where
 eq:EqAt A s a b k
 rc:RcAt A s a b k
 ne:RcNeAt A s a b (!k)
theorem Xd(x y:String):(ae x==ae y)=decide (x=y):=by
 by_cases h:x=y
 ·subst h;simp
 ·exact Z (beq_false_of_ne fun z=>h (Ca z)) (Z (decide_eq_false h) rfl)
theorem jF{A:iL}{s:cE}{x y:Addr}{k:Bool}(h:RcAt A s (.ref x) (.ref y) k)(a:x=y->k=true):EqAt A s (.ref x) (.ref y) k:=by
 by_cases e:x=y
 ·subst e;exact Z (a rfl) (EqAt.same _)
 ·exact EqAt.of_refs e h
theorem NJ{n:Nat}{cm:Addr->Bool}{H:U}{A:iL}{s:cE}{M ys:List V}{vs Y:List bm}{k:Bool}
  (m:∀{a b:V} {va vb:bm} {k:Bool},dK cm H n a b=some k->VR va a->VR vb b->Dg A.in1 s va vb k)
  (h:DU (dK cm H n) M ys=some k) (r:cj vs M) (c:cj Y ys) :
  ∃e:Nat->Bool,(ej vs.toArray.size).all e=k/\vs.toArray.size=Y.toArray.size/\∀j (d:j<vs.toArray.size) (f:j<Y.toArray.size),EqAt A.in1 s vs.toArray[j] Y.toArray[j] (e j):=by
 refine Az (Y1 h) fun e o p q=>⟨e,by refine Z bE (Z r.length ?_);exact p,by exact Z bE (Z bE (Z r.length (Z c.length (Z q rfl)))),fun j d f=>?_⟩
 rw[bE]at d f;have i:=r.length▸d;have l:=c.length▸f;refine Ad (r.get (ck i)) fun v t u=>Ad (c.get (ck l)) fun w x g=>?_;have y:vs.toArray[j]=v:=by
  have:=(av.mp t).2;simpa using this
 have z:Y.toArray[j]=w:=by
  have:=(av.mp x).2;simpa using this
 exact Z y (Z z ((m (o j _ _ (ck i) (ck l)) u g).eq))
inductive iK(cm:Addr->Bool)(H:U)(n:Nat):V->V->Bool->Prop where
 |nn:iK cm H n .none .none true
 |bb (x y:Bool):iK cm H n (.bool x) (.bool y) (x==y)
 |ii (x y:Int):iK cm H n (.int x) (.int y) (decide (x=y))
 |ss (x y:String):iK cm H n (.str x) (.str y) (decide (x=y))
 |ns (y:String):iK cm H n .none (.str y) false
 |sn (y:String):iK cm H n (.str y) .none false
 |nt (y:Addr) (M:List V):H y=some (.tup M)\/H y=some (.list M)->iK cm H n .none (.ref y) false
 |tt (x y:Addr) (M ys:List V) (k:Bool):H x=some (.tup M)->H y=some (.tup ys)->DU (dK cm H n) M ys=some k->iK cm H n (.ref x) (.ref y) k
 |ll (x y:Addr) (M ys:List V) (k:Bool):H x=some (.list M)->H y=some (.list ys)->DU (dK cm H n) M ys=some k->iK cm H n (.ref x) (.ref y) k
 |ln (x y:Addr) (M ys:List V):H x=some (.list M)->H y=some (.list ys)->M.length≠ys.length->iK cm H n (.ref x) (.ref y) false
 |oo (x y C D:Addr) (f g:At->V):H x=some (.inst C f)->H y=some (.inst D g)->cm C=true->cm D=true->iK cm H n (.ref x) (.ref y) (decide (x=y))
theorem Ci{c:Type}{P:c->Prop}{a b:c}(p:P a)(h:some a=some b):P b:=ag h▸p
theorem iW{P:Prop}{k:Bool}(h:none=some k):P:=absurd (congrArg hU h) fg
theorem Zg{cm:Addr->Bool}{H:U}{n:Nat}{a b:V}{k:Bool}(h:dK cm H (n+1) a b=some k):iK cm H n a b k:=by
 cases a with
 |none=>cases b with
  |none=>exact Ci .nn h|str y=>exact Ci (.ns y) h|ref y=>
   rw[VX]at h;cases e:H y with
   |none=>rw[e]at h;exact iW h
   |some o=>
    rw[e]at h;cases o with
    |tup M=>exact Ci (.nt y M (.inl e)) h|list M=>exact Ci (.nt y M (.inr e)) h|_=>exact iW h
  |_=>exact iW h
 |bool x=>cases b with
  |bool y=>exact Ci (.bb x y) h|_=>exact iW h
 |int x=>cases b with
  |int y=>exact Ci (.ii x y) h|_=>exact iW h
 |str x=>cases b with
  |str y=>exact Ci (.ss x y) h|none=>exact Ci (.sn x) h|_=>exact iW h
 |ref x=>cases b with
  |ref y=>
   rw[DI]at h;cases e:H x with
   |none=>rw[e]at h;exact iW h
   |some o=>cases c:H y with
    |none=>rw[e,c]at h;cases o<;>exact iW h
    |some j=>
     rw[e,c]at h;cases o with
     |tup M=>cases j with
      |tup ys=>
       dsimp only at h;by_cases d:M.length=ys.length
       ·rw[if_pos d]at h;exact .tt x y M ys k e c h
       ·rw[if_neg d]at h;exact iW h
      |_=>exact iW h
     |list M=>cases j with
      |list ys=>
       dsimp only at h;by_cases d:M.length=ys.length
       ·rw[if_pos d]at h;exact .ll x y M ys k e c h
       ·rw[if_neg d]at h;exact Ci (.ln x y M ys e c d) h
      |_=>exact iW h
     |inst C f=>cases j with
      |inst D g=>
       dsimp only at h;cases i:cm C with
       |false=>rw[i]at h;exact iW h
       |true=>cases l:cm D with
        |false=>rw[i,l]at h;exact iW h
        |true=>rw[i,l]at h;exact Ci (.oo x y C D f g e c i l) h
      |_=>exact iW h
     |_=>exact iW h
  |_=>exact iW h
 |_=>exact iW h
theorem VY{cm:Addr->Bool}{H:U}{n:Nat}:∀{a:V} {k:Bool},dK cm H n a a=some k->k=true:=by
 induction n with
 |zero=>exact fun h=>iW h
 |succ n d=>
  intro a k h;exact iK.casesOn (motive:=fun a b k w=>a=b->k=true) (Zg h) (fun w=>rfl) (fun x y z=>by refine Z (V.bool.inj z) ?_;exact beq_self_eq_true _) (fun x y z=>decide_eq_true (V.int.inj z)) (fun x y z=>decide_eq_true (V.str.inj z)) (fun y z=>V.noConfusion z) (fun y z=>V.noConfusion z) (fun y M e z=>V.noConfusion z)
   (fun x y M ys k e c h z=>by rw[V.ref.inj z,c]at e;rw[bI.tup.inj (ag e)]at h;exact NB (fun a k h=>d h) h) (fun x y M ys k e c h z=>by rw[V.ref.inj z,c]at e;rw[bI.list.inj (ag e)]at h;exact NB (fun a k h=>d h) h)
   (fun x y M ys e c h z=>by rw[V.ref.inj z,c]at e;exact absurd (congrArg oi (bI.list.inj (ag e)).symm) h) (fun x y C D f g e c i j z=>decide_eq_true (V.ref.inj z)) rfl
section
variable{X:Cx}{H:U}{s:cE}{g:Heap}{A:iL}{va vb:bm}{k:Bool}{n:Nat}{x y:Addr}{M ys:List V}
theorem uN(a:VR va .none)(b:VR vb .none):Dg A s va vb true:=Z (a) (Z (b) ⟨EqAt.same _,RcAt.none_none,RcNeAt.none_none⟩)
theorem vW{x y:Bool}(a:VR va (.bool x))(b:VR vb (.bool y)):Dg A s va vb (x==y):=Z (a) (Z (b) ⟨EqAt.bool_bool _ _,RcAt.bool_bool _ _,RcNeAt.bool_bool _ _⟩)
theorem Aa9{y:String}(a:VR va .none)(b:VR vb (.str y)):Dg A s va vb false:=by
 refine Z (a) ?_;exact AA b fun u e=>by refine Z e ?_;exact⟨EqAt.none_str _ _,RcAt.none_str _ _,RcNeAt.none_str _ _⟩
theorem Aad{y:String}(a:VR va (.str y))(b:VR vb .none):Dg A s va vb false:=by
 refine Z (b) ?_;exact AA a fun u e=>by refine Z e ?_;exact⟨EqAt.str_none _ _,RcAt.str_none _ _,RcNeAt.str_none _ _⟩
theorem xQ{x y:Int}(a:VR va (.int x))(b:VR vb (.int y)):Dg A s va vb (decide (x=y)):=by
 refine AA a fun t e=>AA b fun u c=>?_;rw[e,c,show decide (x=y)=(x==y)by simp[BEq.beq]];exact⟨EqAt.int_int _ _ _ _,RcAt.int_int _ _ _ _,RcNeAt.int_int _ _ _ _⟩
theorem yQ{x y:String}(a:VR va (.str x))(b:VR vb (.str y)):Dg A s va vb (decide (x=y)):=AA a fun t e=>AA b fun u c=>Z e (Z c (Z (ap (Xd ..)) ⟨EqAt.str_str _ _ _ _,RcAt.str_str _ _ _ _,RcNeAt.str_str _ _ _ _⟩))
theorem yj(R:RH X g s H)(c:VR va .none)(d:VR vb (.ref y))(b:A.units<kB)(e:H y=some (.tup M)\/H y=some (.list M)):Dg A s va vb false:=by
 refine Z (c) (Z (d) ?_);rcases e with e|e
 ·exact Ad (R.own _ _ e) fun f a r=>⟨EqAt.none_tuple a.isTup b,RcAt.none_tuple a.isTup b,RcNeAt.none_tuple a.isTup b⟩
 ·exact Ad (R.own _ _ e) fun f a r=>⟨EqAt.none_list a.isList b,RcAt.none_list a.isList b,RcNeAt.none_list a.isList b⟩
theorem Z3(R:RH X g s H)(o:VR va (.ref x))(p:VR vb (.ref y))(f:A.units<kB)(q:∀{a b:V} {va vb:bm} {k:Bool},dK X.cm H n a b=some k->VR va a->VR vb b->Dg A.in1 s va vb k)
  (t:x=y->k=true) (e:H x=some (.tup M)) (u:H y=some (.tup ys)) (h:DU (dK X.cm H n) M ys=some k):Dg A s va vb k:=by
 refine Z (o) (Z (p) (Ad (R.own _ _ e) fun z i r=>Ad (R.own _ _ u) fun B c v=>Az (NJ q h r v) fun e w j l=>?_));have d:=RcAt.tuples i.isTup c.isTup f l;have m:=RcNeAt.tuples i.isTup c.isTup f l;rw[j,Nat.min_self,beq_self_eq_true,se,<-j,w]at d m;exact⟨jF d t,d,m⟩
theorem Abg(R:RH X g s H)(o:VR va (.ref x))(p:VR vb (.ref y))(f:A.units<kB)(q:∀{a b:V} {va vb:bm} {k:Bool},dK X.cm H n a b=some k->VR va a->VR vb b->Dg A.in1 s va vb k)
  (t:x=y->k=true) (e:H x=some (.list M)) (u:H y=some (.list ys)) (h:DU (dK X.cm H n) M ys=some k):Dg A s va vb k:=by
 refine Z (o) (Z (p) (Ad (R.own _ _ e) fun z i r=>Ad (R.own _ _ u) fun B c v=>Az (NJ q h r v) fun e w j l=>?_));have d:=RcAt.lists i.isList c.isList j f l;have m:=RcNeAt.lists i.isList c.isList j f l;rw[w]at d m;exact⟨jF d t,d,m⟩
theorem ww(R:RH X g s H)(j:VR va (.ref x))(k:VR vb (.ref y))(c:A.units<kB)(e:H x=some (.list M))(d:H y=some (.list ys))(h:M.length≠ys.length):Dg A s va vb false:=by
 refine Z (j) (Z (k) ?_);have l:x=y->false=true:=fun z=>absurd (by rw[z,d]at e;exact congrArg oi (bI.list.inj (ag e))) (kl h);refine Ad (R.own _ _ e) fun m f r=>Ad (R.own _ _ d) fun n a o=>?_;have b:(m.toArray.size != n.toArray.size)=true:=by
  exact Z bE (Z bE (Z r.length (Z o.length (bne_iff_ne.mpr h))))
 have i:=RcAt.lists_lengths f.isList a.isList b c;exact⟨jF i l,i,RcNeAt.lists_lengths f.isList a.isList b c⟩
theorem S5(Ab:CX X)(R:RH X g s H){C:Addr}{f:At->V}(e:H x=some (.inst C f))(a:X.cm C=true):s.heap.CmpInst x C [.type "object"]:=by
 obtain⟨c,d,b,_⟩:=R.own _ _ e;exact(Ab.cmp C a).inst R.dN.1 b
theorem ZZ{C D:Addr}(e:VR va (.ref x))(f:VR vb (.ref y))(H':s.heap.CmpInst x C [.type "object"])(ad:s.heap.CmpInst y D [.type "object"])(c:A.units+1<kB):Dg A s va vb (decide (x=y)):=by
 refine Z (e) (Z (f) ?_);have b:=eP c;obtain⟨g,h,i,t,j⟩:=s;by_cases a:x=y
 ·exact Z (decide_eq_true a) (Z (ap a) ⟨EqAt.same _,fun prog w E Q q=>richCompare_eq_same lP H' b q,fun prog w E Q q=>richCompare_ne_same lP H' c q⟩)
 ·refine Z (decide_eq_false a) ?_;have d:RcAt A ⟨g,h,i,t,j⟩ (.ref x) (.ref y) false:=fun prog w E Q q=>richCompare_eq_other lP lP H' ad a b q;exact⟨EqAt.of_refs a d,d,fun prog w E Q q=>richCompare_ne_other lP lP H' ad a c q⟩
theorem EW(Ab:CX X)(R:RH X g s H)(n:Nat):∀{A:iL} {a b:V} {va vb:bm} {k:Bool},A.units+n+2<kB->dK X.cm H n a b=some k->VR va a->VR vb b->Dg A s va vb k:=by
 induction n with
 |zero=>exact fun w h=>iW h
 |succ n o=>
  intro A a b va vb k p h c d;have l:=aI (ab (br (cv (bq n)) _) (bp _ 2)) p;have i:=eP l;have o:∀{a b:V} {va vb:bm} {k:Bool},dK X.cm H n a b=some k->VR va a->VR vb b->Dg A.in1 s va vb k:=fun h=>o (by show A.units+1+n+2<kB;refine Z (lS A.units 1 n) ?_;exact p) h;have m:a=b->k=true:=fun z=>by rw[z]at h;exact VY h
  exact iK.casesOn (motive:=fun a b k w=>VR va a->VR vb b->(a=b->k=true)->Dg A s va vb k) (Zg h) (fun c d w=>uN c d) (fun x y c d w=>vW c d) (fun x y c d w=>xQ c d) (fun x y c d w=>yQ c d)
   (fun y c d w=>Aa9 c d) (fun y c d w=>Aad c d) (fun y M e c d w=>yj R c d i e) (fun x y M ys k e j h c d m=>Z3 R c d i o (fun z=>m (congrArg V.ref z)) e j h) (fun x y M ys k e j h c d m=>Abg R c d i o (fun z=>m (congrArg V.ref z)) e j h)
   (fun x y M ys e j q c d w=>ww R c d i e j q) (fun x y C D f g e j r t c d w=>ZZ c d (S5 Ab R e r) (S5 Ab R j t) l) c d m
variable{d:Nat}
theorem AdY{a b:V}{Q:V->U->Prop}(Ab:CX X)(c:VR va a)(e:VR vb b)(h:dK X.cm H 8 a b=some k)(q:Q (.bool k) H):PT X d H (gX .Eq va vb) VR Q:=fun A g s f R=>
 (EW Ab R 8 (by have:=f.cl;exact Wi this) h c e).rc _ _ _ _ ⟨.bool k,H,rfl,R,q⟩
theorem vV{a b:V}{Q:V->U->Prop}(Ab:CX X)(c:VR va a)(e:VR vb b)(h:dK X.cm H 8 a b=some k)(q:Q (.bool (!k)) H):PT X d H (gX .NotEq va vb) VR Q:=fun A g s f R=>
 (EW Ab R 8 (by have:=f.cl;exact Wi this) h c e).ne _ _ _ _ ⟨.bool (!k),H,rfl,R,q⟩
def Ml(v:bm):V:=@Value.casesOn (fun z=>V) v .none .aa .aa .bool (fun i z=>.int i) (fun z z=>.aa) (fun n z=>.str (Classical.epsilon fun x=>ae x=n)) (fun z z=>.aa) .typ .blt .ref
variable{v:bm}
theorem VR.from{a:V}(r:VR v a):Ml v=a:=by
 cases a with
 |aa=>exact r.elim|int i=>exact r.elim fun t e=>congrArg Ml e
 |str x=>exact r.elim fun t e=>(congrArg Ml e).trans (congrArg V.str (Ca (Classical.epsilon_spec (p:=fun y=>ae y=ae x) ⟨x,rfl⟩)))
 |_=>exact congrArg Ml (r)
noncomputable def B0(f:V->Option Bool):List V->Option Bool
 |[]=>some false
 |y::ys=>match f y,B0 f ys with
  |some a,some b=>some (a||b)
  |_,_=>none
theorem WU{f:V->Option Bool}{y:V}(h:B0 f (y::ys)=some k):∃a b,f y=some a/\B0 f ys=some b/\(a||b)=k:=by
 rw[show B0 f (y::ys)=(match f y,B0 f ys with|some a,some b=>some (a||b)|_,_=>none)from rfl]at h;cases c:f y with
 |none=>rw[c]at h;exact iW h
 |some a=>cases d:B0 f ys with
  |none=>rw[c,d]at h;exact iW h
  |some b=>rw[c,d]at h;exact⟨a,b,rfl,rfl,ag h⟩
theorem Oa{x:bm}{f:V->Option Bool}(d:∀y v k,f y=some k->VR v y->EqAt A s v x k):∀{vs:List bm} {k:Bool},cj vs ys->B0 f ys=some k ->
  (∀v∈vs,EqAt A s v x ((f (Ml v)).getD false))/\(vs.any fun v=>(f (Ml v)).getD false)=k:=by
 induction ys with
 |nil=>intro vs k r h;cases vs with
  |nil=>exact⟨fun v g=>absurd g am,ag h⟩|cons _ _=>exact r.elim
 |cons y ys i=>intro vs k r h;cases vs with
  |nil=>exact r.elim|cons v vs=>
   refine Ay (WU h) fun a b c j l=>aV (i r.2 j) fun m n=>?_;have e:(f (Ml v)).getD false=a:=by refine Z r.1.from (Z c ?_);rfl
   refine⟨fun w o=>(bg.mp o).elim (fun z=>?_) (m w),by refine Z kK (Z e (Z n ?_));exact l⟩;exact Z z (Z e (d _ _ _ c r.1))
theorem Gp(vs:List bm)(e:bm->Bool):vs.toArray.any e=vs.any e:=by simp
theorem TM{b c:bm}{x:V}{a:Addr}{Q:V->U->Prop}(Ab:CX X)(f:VR b x)(i:VR c (.ref a))(e:H a=some (.list ys))(h:B0 (fun y=>dK X.cm H 7 y x) ys=some k)(q:Q (.bool k) H):
  PT X d H (gX .In b c) VR Q:=fun A g s j R=>by
 obtain rfl:=i;exact Ad (R.own _ _ e) fun t l r=>aV (Oa (fun y v k h m=>(EW Ab R 7 (by have:=j.cl;exact Wi this) h m f).eq) r h) fun n o=>in_listAt _ l.isList (fun y p=>n y (by simpa using p)) ⟨.bool k,H,by refine Z (Gp ..) (Z o ?_);rfl,R,q⟩
theorem OG{b c:bm}{x:V}{a:Addr}{Q:V->U->Prop}(Ab:CX X)(f:VR b x)(i:VR c (.ref a))(e:H a=some (.list ys))(h:B0 (fun y=>dK X.cm H 7 y x) ys=some k)(q:Q (.bool (!k)) H):
  PT X d H (gX .NotIn b c) VR Q:=fun A g s j R=>by
 obtain rfl:=i;exact Ad (R.own _ _ e) fun t l r=>aV (Oa (fun y v k h m=>(EW Ab R 7 (by have:=j.cl;exact Wi this) h m f).eq) r h) fun n o=>notIn_listAt _ l.isList (fun y p=>n y (by simpa using p)) ⟨.bool (!k),H,by refine Z (Gp ..) (Z o ?_);rfl,R,q⟩
theorem QU{b c:bm}{x:V}{a:Addr}{Q:V->U->Prop}(Ab:CX X)(f:VR b x)(i:VR c (.ref a))(e:H a=some (.tup ys))(h:B0 (fun y=>dK X.cm H 7 y x) ys=some k)(q:Q (.bool (!k)) H):
  PT X d H (gX .NotIn b c) VR Q:=fun A g s j R=>by
 obtain rfl:=i;exact Ad (R.own _ _ e) fun t l r=>aV (Oa (fun y v k h m=>(EW Ab R 7 (by have:=j.cl;exact Wi this) h m f).eq) r h) fun n o=>notIn_tupleAt _ l.isTup (fun y p=>n y (by simpa using p)) ⟨.bool (!k),H,by refine Z (Gp ..) (Z o ?_);rfl,R,q⟩
variable{es:List (String×V)}{j:Nat}
theorem T7{h i:bm}{x:String}{a:Addr}{Q:V->U->Prop}(k:VR h (.str x))(l:VR i (.ref a))(e:H a=some (.dict es j))(q:Q (.bool (es.lookup x).isSome) H):
  PT X d H (gX .In h i) VR Q:=fun A g s u R=>by
 obtain rfl:=l;refine AA k fun t b=>?_;subst b;have m:=(R.own _ _ e).1;refine Az (jh.mapOf (R.own _ _ e)) fun f n o p=>wpAny_in_of (qh X.prog X.w _ t) m n ⟨.bool (es.lookup x).isSome,H,?_,R.toks _,q⟩;cases z:es.lookup x with
 |none=>refine Z (p x z) ?_;rfl
 |some v=>refine Ad (o x v z) fun c r y=>?_;refine Z r ?_;rfl
theorem OE{h i:bm}{x:String}{a:Addr}{Q:V->U->Prop}(k:VR h (.str x))(l:VR i (.ref a))(e:H a=some (.dict es j))(q:Q (.bool !(es.lookup x).isSome) H):
  PT X d H (gX .NotIn h i) VR Q:=fun A g s u R=>by
 obtain rfl:=l;refine AA k fun t b=>?_;subst b;have m:=(R.own _ _ e).1;refine Az (jh.mapOf (R.own _ _ e)) fun f n o p=>wpAny_notIn_of (qh X.prog X.w _ t) m n ⟨.bool !(es.lookup x).isSome,H,?_,R.toks _,q⟩;cases z:es.lookup x with
 |none=>refine Z (p x z) ?_;rfl
 |some v=>refine Ad (o x v z) fun c r y=>?_;refine Z r ?_;rfl
noncomputable def pq(H:U)(a b:V):Option Bool:=match a,b with
 |.none,.none=>some true
 |.none,.ref _=>some false
 |.ref _,.none=>some false
 |.none,.str _=>some false
 |.str _,.none=>some false
 |.ref x,.ref y=>match H x,H y with
  |some (.inst ..),some (.inst ..)=>some (decide (x=y))
  |_,_=>none
 |_,_=>none
theorem Wd :pq H (.ref x) (.ref y)=(match H x,H y with
  |some (.inst ..),some (.inst ..)=>some (decide (x=y))
  |_,_=>none):=rfl
inductive lF(H:U):V->V->Bool->Prop where
 |nn:lF H .none .none true
 |nr (y:Addr):lF H .none (.ref y) false
 |rn (y:Addr):lF H (.ref y) .none false
 |ns (y:String):lF H .none (.str y) false
 |sn (y:String):lF H (.str y) .none false
 |oo (x y C D:Addr) (f g:At->V):H x=some (.inst C f)->H y=some (.inst D g)->lF H (.ref x) (.ref y) (decide (x=y))
theorem zG{a b:V}(h:pq H a b=some k):lF H a b k:=by
 cases a with
 |none=>cases b with
  |none=>exact Ci .nn h|ref y=>exact Ci (.nr y) h|str y=>exact Ci (.ns y) h|_=>exact iW h
 |str x=>cases b with
  |none=>exact Ci (.sn x) h|_=>exact iW h
 |ref x=>cases b with
  |none=>exact Ci (.rn x) h|ref y=>
   rw[Wd]at h;cases e:H x with
   |none=>rw[e]at h;exact iW h
   |some o=>cases c:H y with
    |none=>rw[e,c]at h;cases o<;>exact iW h
    |some d=>
     rw[e,c]at h;cases o with
     |inst C f=>cases d with
      |inst D g=>exact Ci (.oo x y C D f g e c) h|_=>exact iW h
     |_=>exact iW h
  |_=>exact iW h
 |_=>exact iW h
theorem Gy{op:mE}{Q:V->U->Prop}(a:op=.Is\/op=.IsNot)(b:plainIs va vb=true)(c:(va==vb)=k)(q:Q (.bool (if op=.Is then k else !k)) H):PT X d H (gX op va vb) VR Q:=fun A g s e R=>by
 rcases a with z|z
 ·rw[z]at q ⊢;exact wpAny_is_plain b ⟨.bool k,H,by refine Z c ?_;rfl,R,q⟩
 ·rw[z]at q ⊢;exact wpAny_isNot_plain b ⟨.bool (!k),H,by refine Z c ?_;rfl,R,q⟩
theorem yP{C D:Addr}{f g:At->V}{op:mE}{Q:V->U->Prop}(b:op=.Is\/op=.IsNot)(e:H x=some (.inst C f))(i:H y=some (.inst D g))(q:Q (.bool (if op=.Is then decide (x=y)else !decide (x=y))) H):PT X d H (gX op (.ref x) (.ref y)) VR Q:=fun A g s j R=>by
 obtain⟨k,l,c,_⟩:=R.own _ _ e;obtain⟨m,n,h,_⟩:=R.own _ _ i;by_cases a:x=y
 ·rw[decide_eq_true a]at q;refine Z (ap a) ?_;rcases b with z|z
  ·rw[z]at q ⊢;exact wpAny_is_ref_self ⟨.bool true,H,rfl,R,q⟩
  ·rw[z]at q ⊢;exact wpAny_isNot_ref_self ⟨.bool false,H,rfl,R,q⟩
 ·rw[decide_eq_false a]at q;rcases b with z|z
  ·rw[z]at q ⊢;exact wpAny_is_ref_other a c h (fun z=>nomatch z) ⟨.bool false,H,rfl,R,q⟩
  ·rw[z]at q ⊢;exact wpAny_isNot_ref_other a c h (fun z=>nomatch z) ⟨.bool true,H,rfl,R,q⟩
theorem ut{a b:V}{op:mE}{Q:V->U->Prop}(c:VR va a)(i:VR vb b)(h:pq H a b=some k)(j:op=.Is\/op=.IsNot)(q:Q (.bool (if op=.Is then k else !k)) H):PT X d H (gX op va vb) VR Q:=by
 exact lF.casesOn (motive:=fun a b k z=>VR va a->VR vb b->Q (.bool (if op=.Is then k else !k)) H->PT X d H (gX op va vb) VR Q) (zG h) (fun c i q=>by refine Z (c) (Z (i) ?_);exact Gy j rfl rfl q)
  (fun y c i q=>by refine Z (c) (Z (i) ?_);exact Gy j rfl rfl q) (fun y c i q=>by refine Z (c) (Z (i) ?_);exact Gy j rfl rfl q) (fun y c i q=>AA i fun u e=>by refine Z (c) (Z e ?_);exact Gy j rfl rfl q)
  (fun y c i q=>AA c fun u e=>by refine Z (i) (Z e ?_);exact Gy j rfl rfl q) (fun x y C D f g e l c i q=>by refine Z (c) (Z (i) ?_);exact yP j e l q) c i q
inductive GV(X:Cx)(H:U):V->bm->Prop where
 |none:GV X H .none (.type "NoneType")
 |bool (b:Bool):GV X H (.bool b) (.type "bool")
 |int (i:Int):GV X H (.int i) (.type "int")
 |str (x:String):GV X H (.str x) (.type "str")
 |list {a:Addr} {M:List V} (e:H a=some (.list M)):GV X H (.ref a) (.type "list")
 |tup {a:Addr} {M:List V} (e:H a=some (.tup M)):GV X H (.ref a) (.type "tuple")
 |inst {a C:Addr} {f:At->V} (e:H a=some (.inst C f)) (hc:X.cm C=true):GV X H (.ref a) (.ref C)
theorem UU{t:bm}{a:V}(Ab:CX X)(R:RH X g s H)(T:GV X H a t)(r:VR v a):∃P,KitX X.K v t P/\P s.heap/\v≠.builtin "__main__.__loader__#opaque":=by
 cases T with
 |none=>obtain rfl:=r;exact⟨_,kitx_none,trivial,by intro z;cases z⟩
 |bool b=>obtain rfl:=r;exact⟨_,kitx_bool,trivial,by intro z;cases z⟩
 |int i=>refine AA r fun t d=>?_;subst d;exact⟨_,kitx_int,trivial,by intro z;cases z⟩
 |str i=>refine AA r fun t d=>?_;subst d;exact⟨_,kitx_str,trivial,by intro z;cases z⟩
 |list e=>obtain rfl:=r;obtain⟨j,⟨n,f⟩,_⟩:=R.own _ _ e;exact⟨_,kitx_list,⟨_,f,rfl⟩,by intro z;cases z⟩
 |tup e=>obtain rfl:=r;obtain⟨j,⟨n,f⟩,_⟩:=R.own _ _ e;exact⟨_,kitx_tuple,⟨_,f,rfl⟩,by intro z;cases z⟩
 |inst e k=>
  obtain rfl:=r;obtain⟨p,q,l,u,⟨w,es,x,o,_⟩,_⟩:=R.own _ _ e;have ad:=Ab.yu _ k;exact⟨_,kitx_own ad.g ad.h ad.c ad.s ad.t ad.m,⟨l,rfl,rfl,o⟩,by intro z;cases z⟩
theorem IW{c t:bm}{a:V}{b:Bool}{Q:V->U->Prop}(Ab:CX X)(T:GV X H a t)(r:VR v a)(e:kitOne X.K t c=some b)(q:Q (.bool b) H):PT X d H (call (.builtin "isinstance") [v,c]) VR Q:=fun A g s h R=>by
 exact Az (UU Ab R T r) fun P rL p f=>kia_one rL R.dN.1 p e f fun i=>⟨.bool b,H,rfl,R.toks _,q⟩
theorem Jy{f t:bm}{a:V}{h:Addr}{i:List V}{b:Bool}{Q:V->U->Prop}(Ab:CX X)(T:GV X H a t)(r:VR v a)(j:VR f (.ref h))(k:H h=some (.tup i))
  (e:∀vs,cj vs i->kitAny X.K t vs=some b) (q:Q (.bool b) H):PT X d H (call (.builtin "isinstance") [v,f]) VR Q:=fun A g s m R=>by
 obtain rfl:=j;refine Az (UU Ab R T r) fun P rL p l=>?_;obtain⟨vs,⟨n,c⟩,r⟩:=R.own _ _ k;exact kia_tup rL R.dN.1 p c (e vs r) l fun o=>⟨.bool b,H,rfl,R.toks _,q⟩
def mW(own:Bool)(env:Env)(a:Addr):Prop:=a=env.locals\/(own=true/\∃x,(x,hJ)∈env.scope.names/\env.cells.lookup x=some a)
structure Hid(own:Bool)(env:Env)(g h:Heap)(H:U)(a:Addr):Prop where
 free:¬AY h H a
 new:g.get? a=none
 jc:¬mW own env a
variable{own:Bool}{env:Env}{m:List V}{h':Heap}{a:Addr}
theorem FS.jc(S:FS own g env)(q:mW own env a):g.get? a=none:=by
 rcases q with rfl|⟨d,x,e,f⟩
 ·exact S.oh
 ·refine Az (S.iC d x e) fun c b h z=>?_;obtain rfl:=ag (b.symm.trans f);exact h
theorem FS.grow{g':Heap}(S:FS own g env)(k:∀b o,g.get? b=some o->g'.get? b=some o)(h:∀a,mW own env a->g'.get? a=none):FS own g' env:=
 ⟨S.gl,S.bi,S.kind,S.nodup,h _ (.inl rfl),fun i x d=>by
  exact Az (S.iC i x d) fun c f z j=>⟨c,f,h c (.inr ⟨i,x,d,f⟩),j⟩,S.apart,fun x l d m=>by
  refine AQ (S.cellIn x l d m) fun c o f e=>?_;exact⟨c,o,f,k _ _ e⟩⟩
theorem RH.touch(R:RH X g s H)(i:¬AY s.heap H a)(l:g.get? a=none)(d:gI a s.heap h'){t:Nat}:RH X g {s with heap:=h',toks:=t} H:=by
 have j:∀{b o},H b=some o->b≠a:=fun{b o} e z=>i (.inl (Z (ap z) (Z e (fun q=>nomatch q))));have h:∀{x o c},H x=some o->(dictAt h' x c↔dictAt s.heap x c):=fun{x o c} e=>A8 d (j e);refine⟨R.good,fun b o e=>(d.2 b (fun z=>by rw[z,l]at e;cases e)).trans (R.keep b o e),fun b o e=>(R.own b o e).up (fun w q=>(d.2 b (j e)).trans q) fun C f m c u n q=>(d.2 c fun z=>?_).trans q,fun b q=>?_,
  fun x C f c e q=>R.lE x C f c e ((h e).mp q),fun x y C D f p c e k q r=>R.inj x y C D f p c e k ((h e).mp q) ((h k).mp r),R.gens,R.drawn,R.os⟩
 ·subst z m;exact i (.inr ⟨b,C,f,e,n⟩)
 ·rcases q with q|⟨x,C,f,e,q⟩
  ·exact R.new b (.inl q)
  ·exact R.new b (.inr ⟨x,C,f,e,(h e).mp q⟩)
theorem B3(R:RH X g s H)(c:¬AY s.heap H a)(d:gI a s.heap h'){b:Addr}(q:AY h' H b):AY s.heap H b:=by
 have h:∀{b o},H b=some o->b≠a:=fun{b o} e z=>c (.inl (Z (ap z) (Z e (fun q=>nomatch q))));rcases q with q|⟨x,C,f,e,q⟩
 ·exact .inl q
 ·exact .inr ⟨x,C,f,e,(A8 d (h e)).mp q⟩
theorem FD.touch(F:FD own s.heap H env m)(S:FS own g env)(R:RH X g s H)(h:Hid own env g s.heap H a)(d:gI a s.heap h'):FD own h' H env m:=by
 refine F.moved (fun q=>F.km (B3 R h.free d q)) (fun o e=>(d.2 _ fun z=>h.jc (.inl z.symm)).trans e) (fun n x c f i q=>F.lG n x c f i (B3 R h.free d q)) fun x c j o f b i e=>(d.2 c fun z=>?_).trans e;subst z;by_cases k:j=.cell/\own=true
 ·exact h.jc (.inr ⟨k.2,x,k.1▸f,i⟩)
 ·have p:j=.free\/(j=.cell/\own=false):=by
   rcases b with b|b
   ·refine .inr ⟨b,?_⟩;cases r:own with
    |false=>rfl|true=>exact absurd ⟨b,r⟩ k
   ·exact .inl b
  refine AQ (S.cellIn x j f p) fun u v l t=>?_;obtain rfl:=ag (l.symm.trans i);have:=h.new;rw[t]at this;cases this
theorem Hid.touch{b:Addr}(h:Hid own env g s.heap H b)(R:RH X g s H)(c:¬AY s.heap H a)(d:gI a s.heap h'):Hid own env g h' H b:=⟨fun q=>h.free (B3 R c d q),h.new,h.jc⟩
theorem FD.push(F:FD own s.heap H env m)(R:RH X g s H)(o:Obj):FD own (s.heap.push o) H env m:=by
 have k:∀b ob,s.heap.get? b=some ob->(s.heap.push o).get? b=some ob:=fun b ob e=>bt _ e;exact F.moved (fun q=>F.km (R.bJ k q)) (fun o e=>k _ _ e) (fun f x c a d q=>F.lG f x c a d (R.bJ k q)) fun x c h o a i d e=>k _ _ e
theorem FD.lV(F:FD own s.heap H env m)(q:mW own env a):a<s.heap.objs.size:=by
 rcases q with rfl|⟨h,x,d,f⟩
 ·exact Ad F.ns fun j n z=>n.lt
 ·refine AA (d6 d) fun i g=>Ay (F.cell i x .cell g (.inl rfl)) fun k l b c z=>Ad c fun o e z=>?_;obtain rfl:=ag (b.symm.trans f);exact dt e
theorem Hid.fresh(R:RH X g s H)(F:FD own s.heap H env m)(o:Obj):Hid own env g (s.heap.push o) H s.heap.objs.size:=by
 have k:∀b ob,s.heap.get? b=some ob->(s.heap.push o).get? b=some ob:=fun b ob e=>bt _ e;refine⟨fun q=>dQ _ (R.fj (R.bJ k q)),?_,fun q=>dQ _ (F.lV q)⟩;cases e:g.get? s.heap.objs.size with
 |none=>rfl|some o=>exact absurd (dt (R.keep _ _ e)) (dQ _)
theorem C7(R:RH X g s H)(S:FS own g env)(F:FD own s.heap H env m):∃g',RH X g' s H/\FS own g' env/\(∀b o,g.get? b=some o->g'.get? b=some o)/\(∀a o,Hid own env g s.heap H a->s.heap.get? a=some o->g'.get? a=some o) /\
  ∀a c d,RH X g' c d->Hid own env g s.heap H a->(∃o,s.heap.get? a=some o)->Hid own env g c.heap d a:=by
 refine aV (R.grow (fun a=>mW own env a) fun a q=>S.jc q) fun j k=>⟨_,j,S.grow k fun a q=>EL (.inr q),k,fun a o h e=>?_,fun a c d f h i=>AA i fun o e=>⟨fun q=>?_,h.new,h.jc⟩⟩
 ·rw[C6]
  ·exact e
  ·rintro(q|q)
   ·exact h.free q
   ·exact h.jc q
 ·have:(EF s.heap fun a=>AY s.heap H a\/mW own env a).get? a=some o:=by
   rw[C6]
   ·exact e
   ·rintro(q|q)
    ·exact h.free q
    ·exact h.jc q
  rw[f.new a q]at this;cases this
theorem RH.adopt{ao:bI}(R:RH X g s H)(i:¬AY s.heap H a)(m:g.get? a=none)(n:gI a s.heap h'){t:Nat}(j:IZ ao=true)(r:lw X h' a ao):RH X g {s with heap:=h',toks:=t} (H.set a ao):=by
 have c:=R.touch i m n (t:=t);have C:H a=none:=by
  cases e:H a with
  |none=>rfl|some o=>exact absurd (.inl (Z e (fun q=>nomatch q))) i
 have d:∀{y D k},(H.set a ao) y=some (.inst D k)->y≠a/\H y=some (.inst D k):=fun{y D k} q=>by
  by_cases l:y=a
  ·rw[l,U.ak]at q;cases q;cases j
  ·rw[U.aC _ _ l]at q;exact⟨l,q⟩
 refine⟨R.good,c.keep,fun b u q=>?_,fun b q=>?_,fun y D k h q z=>?_,fun y z D v k x h q A w B=>c.inj y z D v k x h (d q).2 (d A).2 w B,R.gens,R.drawn,R.os⟩
 ·by_cases f:b=a
  ·subst f;rw[U.ak]at q;cases q;exact r
  ·rw[U.aC _ _ f]at q;exact c.own b u q
 ·rcases q with q|⟨y,D,k,q,z⟩
  ·by_cases f:b=a
   ·exact Z f m
   ·rw[U.aC _ _ f]at q;exact c.new b (.inl q)
  ·exact c.new b (.inr ⟨y,D,k,(d q).2,z⟩)
 ·have:=c.lE y D k h (d q).2 z;by_cases p:h=a
  ·subst p;exact absurd (.inr ⟨y,D,k,(d q).2,(A8 n (d q).1).mp z⟩) i
  ·exact Z (U.aC _ _ p) this
theorem FD.adopt{ao:bI}(F:FD own h' H env m)(e:¬mW own env a)(d:IZ ao=true):FD own h' (H.set a ao) env m:=by
 have f:∀b,b≠a->AY h' (H.set a ao) b->AY h' H b:=fun b l q=>by
  rcases q with q|⟨y,D,k,q,z⟩
  ·rw[U.aC _ _ l]at q;exact .inl q
  ·by_cases g:y=a
   ·rw[g,U.ak]at q;cases q;cases d
   ·rw[U.aC _ _ g]at q;exact .inr ⟨y,D,k,q,z⟩
 exact⟨fun q=>F.km (f _ (fun z=>e (.inl z.symm)) q),fun h x c i j q=>F.lG h x c i j (f _ (fun z=>e (.inr ⟨h,x,i,z▸j⟩)) q),F.len,F.ns,F.cell⟩
def Ht:List (bm×bm)->List (String×V)->Prop
 |[],[]=>True
 |(k,v)::r,(x,a)::b=>(∃t,k=.str (ae x) t)/\VR v a/\Ht r b
 |_,_=>False
noncomputable def LF(l:List (String×Nat×Pos)):List (Option Expr):=l.map fun(x,k,p)=>some (.Constant (.str (ae x)) k p)
variable{pos:Pos}
theorem Te{Q:List (String×V)->U->Prop}(q:Q [] H):ET X d H own env m (pi (pe [] [] env pos)) Ht Q:=fun z z z z R z F=>aE ⟨[],H,trivial,R,F,q⟩
theorem lZ{x:String}{k:Nat}{p:Pos}{ks:List (Option Expr)}{v:Expr}{vs:List Expr}{Q:List (String×V)->U->Prop}
  (h:ET X d H own env m (eval v env) VR fun a aaa=>ET X d aaa own env m (pi (pe ks vs env pos)) Ht fun ps aab=>Q ((x,a)::ps) aab) :
  ET X d H own env m (pi (pe (some (.Constant (.str (ae x)) k p)::ks) (v::vs) env pos)) Ht Q:=fun A g s hA R S F=>by
 show dy _ A (do
  let kv <-eval (.Constant (.str (ae x)) k p) env
  let vv <-mx [kv] (do let y <-eval v env;standAt pos;pure y)
  return (kv,vv)::(<-mx [kv,vv] (pi (pe ks vs env pos)))) _ _ _
 refine af (Constant_str (af (eT (af (db (h A g _ hA (R.toks _) S F) (fun vv aac zqz=>zqz.casesOn fun a aaa ra aak aam aad=>af (js (aE (af (eT (aad.use hA aak S aam (fun ps aae pa aab rp aag aal q=>aE ⟨(x,a)::pa,aab,⟨⟨_,rfl⟩,ra,rp⟩,aag,aal,q⟩))))))) fun z z x=>x)))))
theorem Kj{A:iL}{E:bm->cE->Prop}{D:Addr}:∀{ps:List (bm×bm)} {pa:List (String×V)} {s:cE} {kvs:List (Str×bm)} {es:List (String×V)} {Q:PUnit->cE->Prop},Ht ps pa->s.heap.DictOf (strKind X.prog X.w) D kvs->j5 kvs es ->
  ((es++pa).map (·.1)).Nodup->es.length+pa.length<=100->(∀h' t kvs',h'.DictOf (strKind X.prog X.w) D kvs'->j5 kvs' (es++pa)->gI D s.heap h'->Q ⟨⟩ {s with heap:=h',toks:=t})->dy (eA X.prog X.w) A (storeAll D ps) Q E s
 |[],[],s,kvs,es,Q,_,D0,r,_,_,hq=>by
  unfold storeAll;exact Z List.forIn_nil (aE (hq s.heap s.toks kvs D0 (by simpa using r) (ke ..)))
 |(k,v)::ps,(x,a)::pa,s,kvs,es,Q,rp,D0,r,hn,hz,hq=>by
  obtain⟨⟨t,rfl⟩,rv,rp⟩:=rp;unfold storeAll;refine Z (qA ..) ?_;have hlen:∀{kvs es},j5 kvs es->kvs.length=es.length:=by
   intro kvs;induction kvs with
   |nil=>intro es r;cases es with|nil=>rfl|cons _ _=>exact r.elim
   |cons p kvs ih=>intro es r;cases es with|nil=>exact r.elim|cons q es=>simp[ih r.2.2]
  have hl:=hlen r;have absent:kvs.any (fun kv=>decide (kv.1=ae x))=false:=by
   refine Z (propext pw) ?_;intro kv hkv;have:∀{kvs es},j5 kvs es->kv∈kvs->∃y a,kv.1=ae y/\(y,a)∈es:=by
    intro kvs;induction kvs with
    |nil=>intro es r h;cases h
    |cons p kvs ih=>
     intro es r h;cases es with
     |nil=>exact r.elim|cons q es=>
      rcases ED h with rfl|h
      ·exact⟨q.1,q.2,r.1,.head _⟩
      ·exact AQ (ih r.2.2 h) fun y a h1 h2=>⟨y,a,h1,.tail _ h2⟩
   refine AQ (this r hkv) fun y b h1 h2=>?_;simp only[decide_eq_true_eq];intro z;rw[h1]at z;have hyx:=Ca z;subst hyx;rw[bP,eM]at hn;exact hn.2.2 _ (oy h2) _ (by simp) rfl
  refine af (af (wpAny_dictSet_pairs (qh X.prog X.w _ t) D0 (fun h' D1 hs=>aE ?_) (Z hl (ab (ab (bp ..) hz) (dd rfl)))));have e1:stored kvs (ae x) v=kvs++[(ae x,v)]:=by unfold stored;refine Z absent ?_;rfl
  rw[e1]at D1;have r1:j5 (kvs++[(ae x,v)]) (es++[(x,a)]):=by
   have:∀{kvs es},j5 kvs es->j5 (kvs++[(ae x,v)]) (es++[(x,a)]):=by
    intro kvs;induction kvs with
    |nil=>intro es r;cases es with|nil=>exact⟨rfl,rv,trivial⟩|cons _ _=>exact r.elim
    |cons p kvs ih=>intro es r;cases es with|nil=>exact r.elim|cons q es=>exact⟨r.1,r.2.1,ih r.2.2⟩
   exact this r
  have:=Kj (A:=A) (E:=E) (s:={s with heap:=h',toks:=s.toks+1}) (Q:=Q) rp D1 r1 (by simpa using hn) (by simp at hz ⊢;exact xY hz) (fun h'' t kvs' D2 r2 hs2=>hq h'' t kvs' D2 (by simpa using r2) (hs.trans hs2));unfold storeAll at this;exact this
 |[],_::_,_,_,_,_,h,_,_,_,_,_=>h.elim
 |_::_,[],_,_,_,_,h,_,_,_,_,_=>h.elim
theorem v4{ks:List (String×Nat×Pos)}{vs:List Expr}{Q:V->U->Prop}(hl:ks.length=vs.length)(h0:ks≠[])(hz:ks.length<=15)
  (h:ET X d H own env m (pi (pe (LF ks) vs env pos)) Ht fun ps aaa=>(ps.map (·.1)).Nodup/\ps.length<=100/\∀a ep,aaa a=none->Q (.ref a) (aaa.set a (.dict ps ep))):ET X d H own env m (eval (.Dict (LF ks) vs pos) env) VR Q:=fun A g s hA R S F=>by
 have R1:=R.cQ fE;have F1:=F.push R fE;have Hd:=Hid.fresh R F fE;have e0:(s.heap.push fE).get? s.heap.objs.size=some fE:=cn _ rfl;refine BU (C7 R1 S F1) fun g' R2 S2 k hin hst=>?_;have eg:=hin _ _ Hd e0;refine wpAny_Dict_any (Z (List.all_map) (List.all_eq_true.mpr fun y z1=>rfl)) (Z (ac _) hl) (fun q=>h0 (oz.mp q)) (Z (ac _) hz) (h.use hA R2 S2 F1 (fun ps aac pa aaa rp aau aaW zqz=>Di zqz fun hn hz' q=>?_));have hd1:=hst _ _ _ aau Hd ⟨_,e0⟩;have D0:aac.heap.DictOf (strKind X.prog X.w) s.heap.objs.size []:=(Heap.DictOf.new s.heap).at fun o e=>by rw[e0]at e;cases e;exact aau.keep _ _ eg
 refine Kj rp D0 (es:=[]) trivial (by simpa using hn) (by simpa using hz') fun h' t kvs' D1 r1 hs=>?_;have R4:=aau.weaken R.good k;have H1:aaa s.heap.objs.size=none:=by
  cases e:aaa s.heap.objs.size with
  |none=>rfl|some o=>exact absurd (.inl (Z e (fun z=>nomatch z))) hd1.free
 exact AA D1.dictAt fun ep D2=>⟨.ref s.heap.objs.size,_,rfl,R4.adopt (ao:=.dict pa ep) hd1.free hd1.new hs rfl ⟨R.low,kvs',D2,by simpa using r1⟩,(aaW.touch S R4 hd1 hs).adopt hd1.jc rfl,q _ ep H1⟩
theorem YI{Q:V->U->Prop}(q:∀a b,H a=none->Q (.ref a) (H.set a (.dict [] b))):ET X d H own env m (eval (.Dict [] [] pos) env) VR Q:=fun A g s i R S F=>by
 have e:=R.cQ fE;have f:=F.push R fE;have c:=Hid.fresh R F fE;exact AA ((Heap.DictOf.new (knd:=strKind X.prog X.w) s.heap).dictAt) fun b h=>wpAny_Dict_empty ⟨.ref s.heap.objs.size,_,rfl,e.adopt (t:=s.toks) (ao:=.dict [] b) c.free c.new (ke ..) rfl ⟨R.low,[],h,trivial⟩,f.adopt c.jc rfl,q _ b R.fresh⟩
variable{vs:List bm}
theorem cj.take(h:cj vs M)(n:Nat):cj (vs.take n) (M.take n):=by
 induction vs generalizing M n with
 |nil=>cases M with|nil=>simp;exact trivial|cons _ _=>exact h.elim
 |cons v vs a=>cases M with|nil=>exact h.elim|cons x M=>cases n with|zero=>exact trivial|succ n=>exact⟨h.1,a h.2 n⟩
theorem cj.drop(h:cj vs M)(n:Nat):cj (vs.drop n) (M.drop n):=by
 induction vs generalizing M n with
 |nil=>cases M with|nil=>simp;exact trivial|cons _ _=>exact h.elim
 |cons v vs a=>cases M with|nil=>exact h.elim|cons x M=>cases n with|zero=>exact h|succ n=>exact a h.2 n
theorem cj.reverse(h:cj vs M):cj vs.reverse M.reverse:=by
 induction vs generalizing M with
 |nil=>cases M with|nil=>exact trivial|cons _ _=>exact h.elim
 |cons v vs a=>cases M with|nil=>exact h.elim|cons x M=>refine Z i8 (Z i8 ?_);exact(a h.2).app ⟨h.1,trivial⟩
variable{p:Pos}
theorem Dx{Q:Option Int->U->Prop}(q:Q none H):ET X d H own env m (nE none env) rx Q:=fun z z z z R z F=>by refine Z (evalPart_none ..) ?_;exact aE ⟨none,H,.none,R,F,q⟩
variable{e:Expr}
theorem Jo{Q:Option Int->U->Prop}(h:ET X d H own env m (eval e env) VR fun a b=>∃i,a=.int i/\Q (some i) b):ET X d H own env m (nE (some e) env) rx Q:=fun A g s l R S F=>by
 refine Z (evalPart_some ..) (h.use l R S F (fun v k a b r c f j=>Ad j fun i n q=>?_));subst n;obtain⟨t,rfl⟩:=r;exact⟨some i,b,.int _ _,c,f,q⟩
theorem WV{Q:V->U->Prop}(h:ET X d H own env m (eval e env) VR fun a b=>∃i,a=.int i/\Q (.int (-i)) b):ET X d H own env m (eval (.UnaryOp .USub e pos) env) VR Q:=fun A g s l R S F=>
 UnaryOp_ (h.use l R S F (fun v k a b r c f j=>Ad j fun i n q=>by
  subst n;obtain⟨t,rfl⟩:=r;exact neg_int ⟨.int (-i),b,⟨_,rfl⟩,c.toks _,f,q⟩))
noncomputable def WK(st:Option Expr)(a i:bm):List bm:=match st with
 |none=>[i,a]
 |some _=>[a,i]
theorem CJ{b up st:Option Expr}(a i:bm):subscripted (.Slice b up st p) false a i=operate (WK st a i) (getItem a i):=by
 cases st<;>rfl
variable{o:Expr}
theorem iI{W up st:Option Expr}{Q:V->U->Prop}
  (h:ET X d H own env m (eval o env) VR fun a j=>ET X d j own env m (nE W env) rx fun l k=>ET X d k own env m (nE up env) rx fun u v=>ET X d v own env m (nE st env) rx fun t b=>
   ∃r M ys,a=.ref r/\b r=some (.list M)/\M.length<=aT/\t≠some 0/\(∀vs,cj vs M->cj (kT vs.toArray l u t).toList ys)/\∀c,b c=none->Q (.ref c) (b.set c (.list ys))) :
  ET X d H own env m (eval (.Subscript o (.Slice W up st p) pos) env) VR Q:=fun A g s Ab R S F=>by
 refine sA (h.use Ab R S F (fun va ws a j ra x y B=>wpAny_Slice (B.use Ab x S y (fun P rL l k rl C D E=>E.use Ab C S D (fun T aav u v ru G H' ad=>ad.use Ab G S H' (fun AH K t b rt i L aj=>Br aj fun r M ys ea e zr=>Bt zr fun hz ht hp q=>?_))))));subst ea;obtain rfl:va=.ref r:=ra;obtain⟨vs,⟨n,hl⟩,rv⟩:=i.own _ _ e;have f:=i.cQ {cls:=.type "slice",data:=.fields #[P,T,AH]};have w:=L.push i {cls:=.type "slice",data:=.fields #[P,T,AH]};have xs:(K.heap.push {cls:=.type "slice",data:=.fields #[P,T,AH]}).PlainList r vs.toArray:=⟨n,bt _ hl⟩
 refine tail_any xs.isList.typeIs q0.lookup (te xs.isList (md ..) rl ru rt ht ?_ (Z bE (Z rv.length hz))) (CJ _ _);have N:=f.push {cls:=.type "list",data:=.seq (kT vs.toArray l u t)} (.list ys) (fun Y Y z=>nomatch z) ⟨(kT vs.toArray l u t).toList,⟨0,by exact Z (cn _ rfl) rfl⟩,hp vs rv⟩;exact⟨.ref _,_,rfl,N,(w.push f _).adopt (Hid.fresh f w fE).jc rfl,q _ f.fresh⟩
theorem WR(vs:List bm)(r:cj vs M):cj (kT vs.toArray none none (some (-1))).toList M.reverse:=by refine Z (krv_pick ..) ?_;simpa using r.reverse
theorem Tz(k:Nat)(vs:List bm)(r:cj vs M):cj (kT vs.toArray (some (k:Int)) none none).toList (M.drop k):=by refine Z (slicePick_from' ..) ?_;simpa using r.drop k
theorem T9(k:Nat)(vs:List bm)(r:cj vs M):cj (kT vs.toArray none (some (k:Int)) none).toList (M.take k):=by refine Z (slicePick_upto' ..) ?_;simpa using r.take k
theorem lK{K:Expr}{Q:V->U->Prop}
  (h:ET X d H own env m (eval o env) VR fun a l=>ET X d l own env m (eval K env) VR fun b i=>
   ∃r M,∃k:Nat,a=.ref r/\i r=some (.tup M)/\b=.int k/\1<=k/\k<=M.length/\M.length<=aT/\∀c,i c=none->Q (.ref c) (i.set c (.tup (M.drop k)))) :
  ET X d H own env m (eval (.Subscript o (.Slice (some K) none none p) pos) env) VR Q:=fun A g s L R S F=>by
 refine sA (h.use L R S F (fun Ab xs a l P u v w=>wpAny_Slice (Z (evalPart_some ..) (Z (evalPart_none ..) (w.use L u S v (fun vl x b N T j y D=>B6 D fun r M k AH e aj W=>Bt W fun E ws rL q=>aE (aE ?_)))))));subst AH aj;obtain rfl:Ab=.ref r:=P;obtain⟨G,rfl⟩:=T;obtain⟨H',⟨n,hl⟩,ad⟩:=j.own _ _ e;have f:=j.cQ {cls:=.type "slice",data:=.fields #[.int k G,.none,.none]};have t:=y.push j {cls:=.type "slice",data:=.fields #[.int k G,.none,.none]};have B:fD (x.heap.push {cls:=.type "slice",data:=.fields #[.int k G,.none,.none]}) r H'.toArray:=⟨n,bt _ hl⟩
 refine tail_any B.isTup.typeIs slot_tuple_getitem.lookup (getItem_tuple_from B.isTup (md ..) E (Z bE (Z ad.length ws)) ?_ (Z bE (Z ad.length rL))) (CJ _ _);have C:=f.push {cls:=.type "tuple",data:=.seq (H'.toArray.toList.drop k).toArray} (.tup (M.drop k)) (fun Y Y z=>nomatch z) ⟨H'.drop k,⟨0,by exact Z (cn _ rfl) rfl⟩,ad.drop k⟩;exact⟨.ref _,_,rfl,C,(t.push f _).adopt (Hid.fresh f t fE).jc rfl,q _ f.fresh⟩
theorem cj.set{x:V}(h:cj vs M)(r:VR v x)(n:Nat):cj (vs.set n v) (M.set n x):=by
 induction vs generalizing M n with
 |nil=>cases M with|nil=>exact trivial|cons _ _=>exact h.elim
 |cons w vs a=>cases M with|nil=>exact h.elim|cons x M=>cases n with|zero=>exact⟨r,h.2⟩|succ n=>exact⟨h.1,a h.2 n⟩
theorem j5.length{a:List (Str×bm)}(r:j5 a es):a.length=es.length:=by
 induction a generalizing es with
 |nil=>cases es with|nil=>rfl|cons _ _=>exact r.elim
 |cons p a b=>cases es with|nil=>exact r.elim|cons q es=>simp[b r.2.2]
theorem j5.app{b:List (Str×bm)}{x:String}{a:V}(r:j5 b es)(c:VR v a):j5 (b++[(ae x,v)]) (es++[(x,a)]):=by
 induction b generalizing es with
 |nil=>cases es with|nil=>exact⟨rfl,c,trivial⟩|cons _ _=>exact r.elim
 |cons p b d=>cases es with|nil=>exact r.elim|cons q es=>exact⟨r.1,r.2.1,d r.2.2⟩
theorem j5.absent{b:List (Str×bm)}{x:String}(r:j5 b es)(h:es.lookup x=none):b.any (fun d=>decide (d.1=ae x))=false:=by
 induction b generalizing es with
 |nil=>rfl|cons p b f=>
  cases es with
  |nil=>exact r.elim|cons q es=>
   obtain⟨k,c⟩:=p;obtain⟨y,a⟩:=q;obtain⟨rfl,_,g⟩:=r;rw[e9]at h;cases e:(x==y)with
   |true=>rw[e]at h;cases h
   |false=>
    rw[e]at h;have:ae y≠ae x:=fun z=>by rw[Ca z]at e;simp at e
    refine Z kK (Z (f g h) ?_);simp[this]
theorem LI{h i:bm}{f:Nat}{x:String}{b:V}{Q:Unit->U->Prop}(e:H a=some (.dict es f))(j:VR h (.ref a))(k:VR i (.str x))(l:VR v b)(m:es.lookup x=none)(n:es.length<1000)
  (q:∀f,Q () (H.set a (.dict (es++[(x,b)]) f))):PT X d H (setItem h i v) (fun w w=>True) Q:=fun A g s B R=>by
 obtain rfl:=j;obtain⟨t,rfl⟩:=k;refine Cr (R.own _ _ e) fun o p D r=>wpAny_setItem_pairs (qh X.prog X.w _ t) D.dictOf (fun C u y=>?_) (Z r.length (dk (ee n (dd rfl))));obtain⟨c,z⟩:=u.dictAt;refine⟨(),_,trivial,R.jC (o':=.dict (es++[(x,b)]) c) e rfl rfl y ⟨o,_,z,?_⟩,q c⟩;unfold stored;exact Z (r.absent m) (r.app l)
theorem MH{l p:bm}{k:Nat}{b:V}{Q:Unit->U->Prop}(e:H a=some (.list M))(y:VR l (.ref a))(B:VR p (.int k))(C:VR v b)(D:k<M.length)(u:k<2^60)
  (q:Q () (H.set a (.list (M.set k b)))):PT X d H (setItem l p v) (fun Y Y=>True) Q:=fun A g s F R=>by
 obtain rfl:l=.ref a:=y;obtain⟨t,rfl⟩:=B;obtain⟨vs,⟨n,j⟩,r⟩:=R.own _ _ e;have m:s.heap.IsList a vs.toArray:=⟨_,j,rfl,n,rfl⟩
 have E:k<vs.toArray.size:=by rw[bE,r.length];exact D
 obtain⟨kI,c⟩:∃z:Int,z=(k):=⟨_,rfl⟩
 rw[<-c];have w:0<=kI:=zV c;have f:kI<2^63:=Z c (pB (dk u));unfold setItem;try with_reducible refine eT ?_
 first|refine af (aE ?_)|skip
 refine af (wpAny_sequenceKey m.typeIs (dd rfl) ?_);refine af (iP m.typeIs slot_list_setitem
  (ia slot_list_setitem m.typeIs entry_list_setitem ?_ (args_list_setitem _ _ _)))
 show dy _ _ (Builtin.List.listSubscript? (.int kI t) >>= _) _ _ s;refine af (wpAny_listSubscript_int (fitsIndex_of w f) ?_);clear u f w;subst c;have o:vs.toArray[k]?=some vs.toArray[k]:=gx E;show dy _ _ ((seqItemAt a k >>= fun r=>pure (r.map (k,·))) >>= _) _ _ s;refine af (af (wpAny_seqItemAt j rfl (aE ?_)));rw[o];show dy _ _ (setSeqItemAt a k v >>= _) _ _ s;have x:kG (·.setIfInBounds k v) ({cls:=.type "list",data:=.seq vs.toArray n})={cls:=.type "list",data:=.seq (vs.set k v).toArray n}:=by
  unfold kG;simp
 have h:(s.heap.update a (kG (·.setIfInBounds k v))).PlainList a (vs.set k v).toArray:=⟨n,by rw[f5 _ j (by rw[x];rfl),x]⟩
 have i:Ps X g (fun(Y Y:Unit)=>True) Q () {s with heap:=s.heap.update a (kG (·.setIfInBounds k v))}:=⟨(),_,trivial,R.jC (o':=.list (M.set k b)) (t:=s.toks) e rfl rfl (dT ..) ⟨_,h,r.set C k⟩,q⟩
 refine af (wpAny_setSeqItemAt j rfl ?_);first
  |exact af (aE (aE ⟨.none,rfl,aE i⟩))
  |exact aE ⟨.none,rfl,aE i⟩
noncomputable def Cf:Expr->Bool
 |.ListComp ..|.SetComp ..|.DictComp ..=>true
 |_=>false
theorem CA{a:Expr}{t:Option Expr}{l:Nat}(h:Cf a=false):swapsWith a t l env=pure false:=by
 cases a<;>first|rfl|cases h
variable{α β γ δ:Type}
abbrev UT(X:Cx)(d:Nat)(H:U)(own:Bool)(env:Env)(m:List V)(t:Sem Unit)(Q:U->List V->Prop):Prop:=ST X d H own env m t (fun _ (z:Unit)=>True) fun z I m'=>Q I m'
variable{i:Nat}
theorem Dc{l:List V}{a:V}(h:i<l.length):(l.set i a).getD i .aa=a:=by
 refine Z (eJ) (Z (List.getElem?_set_self h) ?_);rfl
theorem Bw{l:List V}{a:V}(h:i≠j):(l.set i a).getD j .aa=l.getD j .aa:=Z (eJ) (Z (List.getElem?_set_ne h) (Z (eJ) rfl))
theorem HQ{names:List (Str×ce)}(a:(names.map (·.1)).Nodup){x:Str}{k f:ce}(g:names[i]?=some (x,k))(l:names[j]?=some (x,f)):i=j:=by
 rw[lm,ic]at a;refine AA (av.mp g) fun b c=>AA (av.mp l) fun d e=>?_;rcases pV i j with h|h|h
 ·exact absurd (Z (ka ..) (Z (ka ..) (Z c (Z e rfl)))) (a i j (by simpa using b) (by simpa using d) h)
 ·exact h
 ·exact absurd (Z (ka ..) (Z (ka ..) (Z c (Z e rfl)))) (a j i (by simpa using d) (by simpa using b) h)
theorem K5{x:Str}{k:ce}{a:V}{Q:U->List V->Prop}(l:env.scope.names[i]?=some (x,k))(B:k=.local\/(k=.cell/\own=true))(rv:VR v a)(q:Q H (m.set i a)):
  UT X d H own env m (storeName env x v) Q:=fun A g s hA R S F=>by
 have T:=(av.mp l).1;rcases B with rfl|⟨rfl,E⟩
 ·refine Ad F.ns fun mc rL hm=>wpAny_storeName_local (S.kindOf l) rL (fun h' G C=>?_) (by refine Z S.kind ?_;rfl);have R':=R.touch (t:=s.toks+1) F.km S.oh C;refine⟨(),H,_,trivial,R',⟨fun z=>F.km (B3 R F.km C z),fun E y c hy n z=>F.lG E y c hy n (B3 R F.km C z),by refine Z m2 ?_;exact F.len,⟨_,G,fun j y f Ab=>?_⟩,fun j y D f p=>?_⟩,q⟩
  ·by_cases b:i=j
   ·subst b;rw[l]at f;cases f;rw[Dc (F.len▸T)]at Ab ⊢;exact⟨v,by simp,rv⟩
   ·rw[Bw b]at Ab ⊢;have ad:y≠x:=fun z=>b (HQ S.nodup l (z▸f));exact Ad (hm j y f Ab) fun w hw rw'=>⟨w,by simp only[ad,if_false];exact hw,rw'⟩
  ·refine Ay (F.cell j y D f p) fun c vo n H' ar=>?_;have b:i≠j:=fun z=>by subst z;rw[l]at f;cases f;rcases p with z|z<;>cases z
   refine Z (Bw b) ⟨c,vo,n,IsCell.at H' fun o e=>(C.2 c fun z=>?_).trans e,ar⟩;subst z;by_cases P:D=.cell/\own=true
   ·exact Az (S.iC P.2 y (P.1▸ay f)) fun ws r Y ad=>ad (ag (r.symm.trans n))
   ·have hz:D=.free\/(D=.cell/\own=false):=by
     rcases p with B|B
     ·refine .inr ⟨B,?_⟩;cases hw:own with
      |false=>rfl|true=>exact absurd ⟨B,hw⟩ P
     ·exact .inl B
    refine AQ (S.cellIn y D (ay f) hz) fun ws o' r AH=>?_;have:=ag (r.symm.trans n);rw[this,S.oh]at AH;cases AH
 ·refine Ay (F.cell i x _ l (.inl rfl)) fun c vo n H' ar=>Az (S.iC E x (ay l)) fun ws r aj hcL=>?_;obtain rfl:=ag (r.symm.trans n);have K:=F.lG E x ws (ay l) n;refine wpAny_storeName_cell S.kind (S.kindOf l) n H' fun h' G C=>?_;have R':=R.touch (t:=s.toks) K aj C;refine Ad F.ns fun mc rL hm=>⟨(),H,_,trivial,R',⟨fun z=>F.km (B3 R K C z),fun E y c hy n z=>F.lG E y c hy n (B3 R K C z),by refine Z m2 ?_;exact F.len,⟨mc,rL.sameBut C (kl hcL),fun j y f Ab=>?_⟩,fun j y D f p=>?_⟩,q⟩
  ·have b:i≠j:=fun z=>by subst z;rw[l]at f;cases f
   rw[Bw b]at Ab ⊢;exact hm j y f Ab
  ·by_cases b:i=j
   ·subst b;rw[l]at f;cases f;exact Z (Dc (F.len▸T)) ⟨ws,some v,n,G,fun Y=>⟨v,rfl,rv⟩⟩
   ·refine Z (Bw b) (Ay (F.cell j y D f p) fun u L h W xs=>⟨u,L,h,IsCell.at W fun o e=>(C.2 u fun z=>?_).trans e,xs⟩);subst z;by_cases P:D=.cell
    ·subst P;have:=S.apart E x y u (ay l) (ay f) n h;exact b (HQ S.nodup l (this▸f))
    ·have hz:D=.free:=by rcases p with B|B;exact absurd B P;exact B
     refine AQ (S.cellIn y D (ay f) (.inl hz)) fun aa3 o' N AH=>?_;have:=ag (N.symm.trans h);rw[this,aj]at AH;cases AH
inductive gR(own:Bool)(env:Env):List Expr->List Nat->Prop where
 |nil:gR own env [] []
 |cons {i:Nat} {x:Str} {k:ce} {p:Pos} {es:List Expr} {is:List Nat} (hi:env.scope.names[i]?=some (x,k)) (hk:k=.local\/(k=.cell/\own=true)) (h:gR own env es is):gR own env (.Name x p::es) (i::is)
noncomputable def Do:List V->List Nat->List V->List V
 |m,i::is,x::M=>Do (m.set i x) is M
 |m,_,_=>m
theorem Lf{x:Str}{k:ce}{a:V}{Q:U->List V->Prop}(b:env.scope.names[i]?=some (x,k))(c:k=.local\/(k=.cell/\own=true))(e:VR v a)(q:Q H (m.set i a)):
  UT X d H own env m (o1 (.Name x p) env v) Q:=fun A g s f R S F=>wpAny_assign_Name (K5 b c e q A g s f R S F)
variable{is:List Nat}
theorem Sp{es:List Expr}(T:gR own env es is):∀{vs:List bm} {M m:List V} {H:U} {Q:U->List V->Prop},cj vs M->M.length=is.length->Q H (Do m is M) ->
  UT X d H own env m (assignInOrder ((kU es env).map (·.2)) vs) Q:=by
 induction T with
 |nil=>
  intro vs M m H Q r e q A g s f R S F;cases M with
  |cons _ _=>cases e
  |nil=>
   exact aE ⟨(),H,m,trivial,R,F,q⟩
 |@cons i y k p es is o t h u=>
  intro vs M m H Q r e q A g s f R S F;cases M with
  |nil=>cases e
  |cons x M=>
   cases vs with
   |nil=>exact r.elim|cons v vs=>
    show dy _ _ (do mx vs (o1 (.Name y p) env v);assignInOrder ((kU es env).map (·.2)) vs) _ _ _;refine af (eT ((Lf (Q:=fun w z=>w=H/\z=m.set i x) o t r.1 ⟨rfl,rfl⟩).use f R S F (fun Z a Z l n Z b c j=>aV j fun B C=>?_)));subst B C;exact u r.2 (h9 e) q A g a f b S c
theorem gR.length{es:List Expr}(h:gR own env es is):es.length=is.length:=by
 induction h with
 |nil=>rfl|cons _ _ _ a=>simp[a]
theorem gR.each{es:List Expr}(h:gR own env es is):(kU es env).length=es.length/\(kU es env).findIdx? (·.1)=none:=by
 induction h with
 |nil=>exact⟨rfl,rfl⟩|@cons i x k p es is b c h a=>
  have e:kU (.Name x p::es) env=(false,o1 (.Name x p) env)::kU es env:=rfl;refine Z e ⟨by exact Z d4 (Z d4 (Z a.1 rfl)),(Z (tP) ?_)⟩;simp[a.2]
theorem PN{r:Addr}{Q:List V->U->Prop}(c:VR v (.ref r))(e:H r=some (.tup M))(q:Q M H):PT X d H (unpackItems v M.length none) cj Q:=fun A g s f R=>by
 obtain rfl:=c;refine Ad (R.own _ _ e) fun h i a=>?_;have:M.length=h.toArray.size:=by exact Z bE (Z a.length rfl)
 refine Z this (unpackItems_tuple f.handled i.isTup fun k j=>⟨M,H,by simpa using a,R.extend fun b o e=>j b o (dL (dt e)) e,q⟩)
theorem PY{es:List Expr}{k:Nat}{r:Addr}{Q:U->List V->Prop}(T:gR own env es is)(n:VR v (.ref r))(e:H r=some (.tup M))(h:M.length=is.length)(q:Q H (Do m is M)):
  UT X d H own env m (o1 (.Tuple es k p) env v) Q:=fun A g s i R S F=>by
 show dy _ _ (do standAt p;unpack v (kU es env)) _ _ _;refine af (js ?_);unfold unpack;refine aV T.each fun o t=>Z o (Z t (Z T.length (Z (ap h) (af (eT (((PN (Q:=fun j u=>j=M/\u=H) n e ⟨rfl,rfl⟩).et).use i R S F (fun z a j l w b c f=>aV f fun x y=>?_)))))));subst x y;exact Sp T w h q A g a i b S c
variable{Q:bu->U->List V->Prop}
theorem Za(q:Q .next H m):ST X d H own env m (ot [] env) iY Q:=fun z z z z R z F=>sf ⟨.next,H,m,trivial,R,F,q⟩
theorem mX{st:Stmt}{c:List Stmt} (h:ST X d H own env m (exec st env) iY fun fl a b=>match fl with
  |.next=>ST X d a own env b (ot c env) iY Q
  |fl=>Q fl a b):ST X d H own env m (ot (st::c) env) iY Q:=fun A g s k R S F=>
 wpAny_execs_cons (h.use k R S F (fun f j fl a b r e i q=>by
  cases f<;>cases fl<;>first|exact r.elim|exact⟨_,a,b,r,e,i,q⟩|exact q A g j k e S i))
theorem m9{x:Str}{k:ce}{value:Expr}(hi:env.scope.names[i]?=some (x,k))(hk:k=.local\/(k=.cell/\own=true))(hc:Cf value=false)
  (h:ET X d H own env m (eval value env) VR fun a aaa=>Q .next aaa (m.set i a)):ST X d H own env m (exec (.Assign [.Name x p] value pos) env) iY Q:=fun A g s hA R S F=>
 wpAny_Assign_Name (h.use hA R S F (fun v aac a aaa r aak aam q=>
  (K5 (Q:=fun I m'=>I=aaa/\m'=m.set i a) hi hk r ⟨rfl,rfl⟩).use hA aak S aam (fun z aae z aab aaX z aag aal zqz=>aV zqz fun e1 e2=>by subst e1 e2;exact⟨.next,_,_,trivial,aag,aal,q⟩))) (CA hc)
theorem AaH(hn:interactive env=false)(hc:Cf e=false)(h:ET X d H own env m (eval e env) VR fun z aaa=>Q .next aaa m):ST X d H own env m (exec (.Expr e pos) env) iY Q:=fun A g s hA R S F=>
 wpAny_Expr_any (h.use hA R S F (fun v aac a aaa r aak aam q=>⟨.next,aaa,m,trivial,aak,aam,q⟩)) hn (CA hc)
variable{b:List Stmt}
theorem rB{t:Expr}{o:List Stmt}(h:ET X d H own env m (isTrue t env (eval t env)) Eq fun c a=>if c then ST X d a own env m (ot b env) iY Q else ST X d a own env m (ot o env) iY Q):
  ST X d H own env m (exec (.If t b o pos) env) iY Q:=fun A g s k R S F=>
 wpAny_If (h.use k R S F (fun c f z a e i j q=>by
  subst e;cases c with
  |true=>exact q A g f k i S j|false=>exact q A g f k i S j))
theorem zF(h:ET X d H own env m (eval e env) VR fun a b=>Q (.ret a) b m):ST X d H own env m (exec (.Return (some e) pos) env) iY Q:=fun A g s j R S F=>
 wpAny_Return_some (h.use j R S F (fun v i a b r c f q=>⟨.ret a,b,m,r,c,f,q⟩))
variable{c:Expr}
theorem Uh{k:At}(L:Cf c=false)(Ab:CX X)
  (h:ET X d H own env m (eval c env) VR fun a j=>ET X d j own env m (eval o env) VR fun b i=>∃x C f,b=.ref x/\i x=some (.inst C f)/\X.cm C=true/\Q .next (i.set x (.inst C (upd f k a))) m) :
  ST X d H own env m (exec (.Assign [.Attribute o k.s p] c pos) env) iY Q:=fun A g s B R S F=>
 plainObj_wpAny_Assign_Attribute (h.use B R S F (fun v G a j r l n t=>t.use B l S n (fun AH H' b i xs u w D=>B6 D fun x C f N e E q=>by
  subst N;obtain rfl:=xs;exact((NA (Q:=fun Z P=>P=i.set x (.inst C (upd f k a))) (Ab.cls C E) e r rfl).et).use B u S w (fun Z ad Z K Z y z T=>by subst T;exact⟨.next,_,m,trivial,y,z,q⟩)))) (CA L)
theorem Th{u:Expr}{k:At}(Ab:CX X)
  (h:ET X d H own env m (eval o env) VR fun b r=>∃x C f,b=.ref x/\r x=some (.inst C f)/\X.cm C=true/\∃i,f k=.int i /\
   ET X d r own env m (eval u env) VR fun c v=>∃j t,c=.int j/\v x=some (.inst C t)/\Q .next (v.set x (.inst C (upd t k (.int (i+j))))) m) :
  ST X d H own env m (exec (.AugAssign (.Attribute o k.s p) .Add u pos) env) iY Q:=fun A g s w R S F=>
 wpAny_AugAssign_AttributeAny (h.use w R S F (fun vo aac b r ro y B l=>B6 l fun x C f eb e D ws=>Ad ws fun i rL E=>by
  subst eb;obtain rfl:=ro;refine((Nk (Q:=fun a G=>a=.int i/\G=r) (Ab.cls C D) e (Z rL (fun z=>nomatch z)) (Z rL (fun n z=>nomatch z)) ⟨rL,rfl⟩).et).use w y S B (fun aa4 aae a v r1 H' ad l=>aV l fun e1 e2=>?_);subst e1 e2;refine E.use w H' S ad (fun aa5 aav c K r2 L xs l=>Ay l fun j t ec N q=>?_);subst ec;refine((RM (Q:=fun a G=>a=.int (i+j)/\G=K) r1 r2 ⟨rfl,rfl⟩).et).use w L S xs (fun aa6 aah a P r3 T AH l=>aV l fun e1 e2=>?_);subst e1 e2;exact((NA (Q:=fun Y G=>G=P.set x (.inst C (upd t k (.int (i+j))))) (Ab.cls C D) N r3 rfl).et).use w T S AH (fun Y aaY Y aao Y aj W e5=>by subst e5;exact⟨.next,_,m,trivial,aj,W,q⟩)))
theorem Uw{i:Expr}(xs:Cf e=false)
  (h:ET X d H own env m (eval e env) VR fun a j=>ET X d j own env m (eval o env) VR fun b k=>ET X d k own env m (eval i env) VR fun c l=>
   ∀va D E,VR va a->VR D b->VR E c->PT X d l (setItem D E va) (fun _ (Z:Unit)=>True) fun Z f=>Q .next f m) :
  ST X d H own env m (exec (.Assign [.Subscript o i p] e pos) env) iY Q:=fun A g s G R S F=>
 wpAny_Assign_Subscript (h.use G R S F (fun va H' a j N n r t=>t.use G n S r (fun D ad b k Ab u v w=>w.use G u S v (fun E K c l P x y z=>
  ((z va D E N Ab P).et).use G x S y (fun Z L Z f Z B C q=>⟨.next,f,m,trivial,B,C,q⟩))))) (CA xs)
noncomputable def notTuple:Expr->Bool
 |.Tuple ..=>false
 |_=>true
theorem OW{es:List Expr}{k:Nat}{a:Expr}(h:notTuple a=true):swappedStores [.Tuple es k p] a env=pure none:=by
 cases a<;>first|rfl|cases h
theorem m6{es:List Expr}{k:Nat}{b:Expr}(T:gR own env es is)(y:Cf b=false)(z:notTuple b=true)
  (h:ET X d H own env m (eval b env) VR fun a c=>∃r M,a=.ref r/\c r=some (.tup M)/\M.length=is.length/\Q .next c (Do m is M)) :
  ST X d H own env m (exec (.Assign [.Tuple es k p] b pos) env) iY Q:=fun A g s o R S F=>
 Assign_Tuple (h.use o R S F (fun v t a c B i j f=>AN f fun r M C e D q=>by
  subst C;exact(PY (X:=X) (d:=d) (Q:=fun E G=>E=c/\G=Do m is M) T B e D ⟨rfl,rfl⟩).use o i S j (fun Z u Z w x Z l n f=>aV f fun H' ad=>by subst H' ad;exact⟨.next,_,_,trivial,l,n,q⟩)))
  (by unfold swapsWithSole;exact CA y) (OW z)
theorem ug{c d:Type}{g:c->Option d}{a b:c}{x y:d}(e:g a=some x)(f:g b=some y):[a,b].filterMap g=[x,y]:=by
 refine Z k8 (Z e (Z k8 (Z f ?_)));rfl
theorem u6{x y:Str}(h:x≠y):([x,y]:List Str).eraseDups=[x,y]:=by
 rw[ty,iE (by rw[beq_false_of_ne (kl h)];rfl),qE,ty];rfl
theorem SN{x:Str}{a:Pos}(b:env.kindOf x=some uk)(c:(a.line==n)=true):(if(env.kindOf x==some uk&&a.line==n)=true then some x else none)=some x:=Z b (Z c (if_pos rfl))
theorem Pq{x y:Str}{e f j:Pos}{k m:Nat}{e₁ e₂:Expr}(g:env.kindOf x=some uk)(h:env.kindOf y=some uk)(a:x≠y)(i:(f.line==e.line)=true)(n:env.scope.kind=.function)
  (o:eB e₁=false) (b:eB e₂=false) (q:([e₁,e₂].all (qc 8))=false) (c:([e₁,e₂].all (oT 8))=false) :
  swappedStores [.Tuple [.Name x e,.Name y f] k p] (.Tuple [e₁,e₂] m j) env=pure (some [x,y]):=by
 have d:env.blockKind=.function:=by unfold Env.blockKind;refine Z n ?_;rfl
 refine(if_neg fun z=>?_).trans ((if_neg fun z=>?_).trans ((if_neg fun z=>?_).trans ((if_neg fun z=>?_).trans ((if_neg fun z=>?_).trans (congrArg (fun l=>(pure (some l))) (ug ?_ ?_))))))
 ·rw[d]at z;exact absurd z ax
 ·exact absurd (show(eB e₁||(eB e₂||false))=true from z) (Z o (Z b ax))
 ·rw[ug,u6 a]at z
  ·exact absurd z ax
  ·exact SN g (beq_self_eq_true _)
  ·exact SN h i
 ·exact absurd (q.symm.trans z) ax
 ·exact absurd (c.symm.trans z) ax
 ·exact SN g (beq_self_eq_true _)
 ·exact SN h i
theorem nO{x y:Str}{px py pt pv:Pos}{k k':Nat}{e₁ e₂:Expr}(rL:env.scope.names[i]?=some (x,uk))(hj:env.scope.names[j]?=some (y,uk))(hij:i≠j)(hl:(py.line==px.line)=true)
  (hs:eB e₁=false) (B:eB e₂=false) (hf:([e₁,e₂].all (qc 8))=false) (hf':([e₁,e₂].all (oT 8))=false)
  (h:ET X d H own env m (eval e₁ env) VR fun a c=>ET X d c own env m (eval e₂ env) VR fun b l=>∀r,l r=none->Q .next (l.set r (.tup [a,b])) ((m.set j b).set i a)) :
  ST X d H own env m (exec (.Assign [.Tuple [.Name x px,.Name y py] k p] (.Tuple [e₁,e₂] k' pt) pos) env) iY Q:=fun A g s ws R S F=>by
 have hne:x≠y:=fun z=>hij (HQ S.nodup rL (z▸hj));refine Assign_Tuple_swapped (names:=[x,y]) ?_ (by unfold swapsWithSole;exact CA rfl) (Pq (S.kindOf rL) (S.kindOf hj) hne hl S.kind hs B hf hf');have hev:ET X d H own env m (eval (.Tuple [e₁,e₂] k' pt) env) VR fun a c=>∃r f aaq,a=.ref r/\c r=some (.tup [f,aaq])/\Q .next c ((m.set j aaq).set i f):=by
  refine Ta (O9 hs (h.mono fun a c C=>O9 B (C.mono fun b l D=>W3 ⟨?_,fun r hr=>⟨r,a,b,rfl,U.ak ..,D r hr⟩⟩)));show 2<=aT;have:aT=2^24:=rfl;exact fit_le rfl
 refine hev.use ws R S F (fun v aac a c ra E G n=>Br n fun r f aaq ea e q=>?_);subst ea;refine((PN (M:=[f,aaq]) (Q:=fun ys H'=>ys=[f,aaq]/\H'=c) ra e ⟨rfl,rfl⟩).et).use ws E S G (fun vs ad ys l o K L n=>aV n fun xs N=>?_);subst xs N;obtain⟨t,w,rfl,r1,r2⟩:∃t w,vs=[t,w]/\VR t f/\VR w aaq:=by
  match vs,o with
  |[t,w],o=>exact⟨t,w,rfl,o.1,o.2.1⟩|[],o=>exact o.elim|[_],o=>exact o.2.elim|_::_::_::_,o=>exact o.2.2.elim
 show dy _ _ (do mx [t] (bindName env y w);do mx [] (bindName env x t);pure ()) _ _ _;refine af (eT (db (wpAny_bindName (K5 (X:=X) (d:=d) (Q:=fun H' m'=>H'=l/\m'=m.set j aaq) hj (.inl rfl) r2 ⟨rfl,rfl⟩ A g ad ws K S L)) (fun Z Ab n=>n.casesOn fun Z P aa7 Z T AH u=>aV u fun xs N=>?_) fun Z Z x=>x));subst xs N;refine af (eT (db (wpAny_bindName (K5 (X:=X) (d:=d) (Q:=fun H' m'=>H'=P/\m'=(m.set j aaq).set i f) rL (.inl rfl) r1 ⟨rfl,rfl⟩ A g Ab ws T S AH)) (fun Z aah n=>n.casesOn fun Z aan aa8 Z aj W u=>aV u fun xs N=>?_) fun Z Z x=>x));subst xs N;exact aE ⟨.next,_,_,trivial,aj,W,q⟩
inductive Hw(X:Cx)(g:Heap)(own:Bool)(env:Env)(Q:bu->U->List V->Prop)(r:Result)(s:cE):Prop where
 |mk (f:Flow):r=.ok f->UG X g own env iY Q f s->Hw X g own env Q r s
inductive ZV(X:Cx)(g:Heap)(own:Bool)(env:Env)(H':Nat->U->List V->Prop)(n:Nat)(s:cE):Prop where
 |mk (H:U) (m:List V):H' n H m->RH X g s H->FD own s.heap H env m->ZV X g own env H' n s
inductive Wj(X:Cx)(g:Heap)(own:Bool)(env:Env)(items:List V)(priv:List Addr)(Itr:Nat->Heap->Prop)(C:Nat->List V->U->List V->Prop)(n:Nat)(s:cE):Prop where
 |mk (k:Nat) (M:List V) (H:U) (m:List V):items.drop k=M->RH X g s H->FD own s.heap H env m->(∀a∈priv,Hid own env g s.heap H a)->Itr k s.heap->C k M H m->k<=items.length->n=items.length-k->Wj X g own env items priv Itr C n s
theorem Ym{t:Expr}(H':Nat->U->List V->Prop)(n:Nat)(K:H' n H m)
  (y:∀n H m,H' n H m->ET X d H own env m (isTrue t env (eval t env)) Eq fun c i=>if c then ST X d i own env m (ot b env) iY fun fl a h=>(match fl with
    |.next|.cont=>∃k,k<n/\H' k a h
    |.brk=>Q .next a h
    |.ret v=>Q (.ret v) a h)else Q .next i m) :
  ST X d H own env m (exec (.While t b [] pos) env) iY Q:=fun A g s D R S F=>by
 refine wpAny_While (iA (codeAny_whileLoop (ZV X g own env H') (R:=Hw X g own env Q) ?_ n ⟨H,m,K,R,F⟩) fun r E o=>o.casesOn fun f e z=>by subst e;exact z);rintro n E ⟨L,G,xs,N,Ab⟩;refine db (y n L G xs A g E D N S Ab) (fun c B o=>o.casesOn fun Z i e p u z=>?_) fun Z Z x=>x.elim;subst e;cases c with
 |false=>exact sf ⟨.next,rfl,.next,i,G,trivial,p,u,z⟩|true=>
  refine db (z A g B D p S u) (fun f ad o=>o.casesOn fun fl a h r j l q=>?_) fun Z Z x=>x.elim;cases f<;>cases fl<;>first|exact r.elim|skip
  ·exact Ad q fun k C w=>⟨k,C,a,h,w,j,l⟩
  ·exact⟨.next,rfl,.next,a,h,trivial,j,l,q⟩
  ·exact Ad q fun k C w=>⟨k,C,a,h,w,j,l⟩
  ·exact⟨_,rfl,.ret _,a,h,r,j,l,q⟩
def forL(c:Nat->V->U->List V->Option (List V))(ok:U->Prop)(a:U->List V->(bu->U->List V->Prop)->Prop)(Q:bu->U->List V->Prop):Nat->List V->U->List V->Prop
 |_,[],H,m=>ok H/\Q .next H m
 |k,x::M,H,m=>ok H/\∃m',c k x H m=some m'/\a H m' fun fl d b=>match fl with
  |.next|.cont=>forL c ok a Q (k+1) M d b
  |.brk=>Q .next d b
  |.ret v=>Q (.ret v) d b
section
variable{g:Heap}{s:cE}{h':Heap}
theorem RH.d7(R:RH X g s H)(P:Addr->Prop)(j:∀a,P a->¬AY s.heap H a/\g.get? a=none)(k:∀b o,¬P b->s.heap.get? b=some o->h'.get? b=some o){t:Nat}:RH X g {s with heap:=h',toks:=t} H:=by
 have l:∀{x o},H x=some o->¬P x:=fun{x o} e q=>(j x q).1 (.inl (Z e (fun z=>nomatch z)));have i:∀{x o c},H x=some o->(dictAt h' x c↔dictAt s.heap x c):=fun{x o c} e=>by
  refine AA (R.there e) fun m q=>?_;constructor
  ·rintro⟨h,d,z⟩;rw[k _ _ (l e) q]at d;cases d;exact⟨m,q,z⟩
  ·rintro⟨h,d,z⟩;exact⟨h,k _ _ (l e) d,z⟩
 refine⟨R.good,fun b o e=>k _ _ (fun q=>by rw[(j b q).2]at e;cases e) (R.keep b o e),fun a o e=>(R.own a o e).up (fun w q=>k _ _ (l e) q) fun C f p c m r q=>k _ _ (fun z=>(j c z).1 (.inr ⟨a,C,f,by exact Z e (Z p rfl),r⟩)) q,fun a q=>?_,
  fun x C f c e q=>R.lE x C f c e ((i e).mp q),fun x y C D f u c e n q d=>R.inj x y C D f u c e n ((i e).mp q) ((i n).mp d),R.gens,R.drawn,R.os⟩
 rcases q with q|⟨x,C,f,e,q⟩
 ·exact R.new a (.inl q)
 ·exact R.new a (.inr ⟨x,C,f,e,(i e).mp q⟩)
theorem RH.gK(R:RH X g s H)(P:Addr->Prop)(d:∀a,P a->¬AY s.heap H a/\g.get? a=none)(k:∀b o,¬P b->s.heap.get? b=some o->h'.get? b=some o){a:Addr}(q:AY h' H a):AY s.heap H a:=by
 rcases q with q|⟨x,C,f,e,q⟩
 ·exact .inl q
 ·refine AA (R.there e) fun h w=>Ad q fun i c z=>?_;rw[k _ _ (fun q=>(d x q).1 (.inl (Z e (fun z=>nomatch z)))) w]at c;cases c;exact .inr ⟨x,C,f,e,h,w,z⟩
theorem FD.d7(F:FD own s.heap H env m)(S:FS own g env)(R:RH X g s H)(P:Addr->Prop)(f:∀a,P a->Hid own env g s.heap H a)(k:∀b o,¬P b->s.heap.get? b=some o->h'.get? b=some o):FD own h' H env m:=by
 have h:∀a,P a->¬AY s.heap H a/\g.get? a=none:=fun a q=>⟨(f a q).free,(f a q).new⟩
 refine F.moved (fun q=>F.km (R.gK P h k q)) (fun o e=>k _ _ (fun z=>(f _ z).jc (.inl rfl)) e) (fun t x c i j q=>F.lG t x c i j (R.gK P h k q)) fun x c l o i d j e=>k _ _ (fun z=>?_) e;by_cases n:l=.cell/\own=true
 ·exact(f c z).jc (.inr ⟨n.2,x,n.1▸i,j⟩)
 ·have u:l=.free\/(l=.cell/\own=false):=by
   rcases d with d|d
   ·refine .inr ⟨d,?_⟩;cases v:own with
    |false=>rfl|true=>exact absurd ⟨d,v⟩ n
   ·exact .inl d
  refine AQ (S.cellIn x l i u) fun r y p w=>?_;obtain rfl:r=c:=ag (p.symm.trans j);have:=(f r z).new;rw[w]at this;cases this
theorem Hid.d7{a:Addr}(h:Hid own env g s.heap H a)(R:RH X g s H)(P:Addr->Prop)(c:∀a,P a->¬AY s.heap H a/\g.get? a=none)(k:∀b o,¬P b->s.heap.get? b=some o->h'.get? b=some o):Hid own env g h' H a:=
 ⟨fun q=>h.free (R.gK P c k q),h.new,h.jc⟩
end
structure lz(X:Cx)(d:Nat)(own:Bool)(env:Env)(target:Expr)(bnd:Nat->V->U->List V->Option (List V))(ok:U->Prop)(items:List V)(priv:List Addr)(H':Addr)(Itr:Nat->Heap->Prop):Prop where
 at_:∀k h,Itr k h->∀a∈priv,∃o,h.get? a=some o
 keep:∀k h h',Itr k h->(∀a∈priv,∀o,h.get? a=some o->h'.get? a=some o)->Itr k h'
 item:∀k x H m m' A g s,items[k]?=some x->ok H->bnd k x H m=some m'->iw d A->RH X g s H->FS own g env->FD own s.heap H env m->(∀a∈priv,Hid own env g s.heap H a)->Itr k s.heap ->
  dy (eA X.prog X.w) A (lI (.ref H')) (fun r s'=>∃v,r=some v/\dy (eA X.prog X.w) A (do sg target (.ref H') v;o1 target env v) (fun z s''=>RH X g s'' H/\FD own s''.heap H env m'/\(∀a∈priv,Hid own env g s''.heap H a)/\Itr (k+1) s''.heap) (fun z z=>False) s') (fun z z=>False) s
 done:∀H m A g s,ok H->iw d A->RH X g s H->FS own g env->FD own s.heap H env m->(∀a∈priv,Hid own env g s.heap H a)->Itr items.length s.heap ->
  dy (eA X.prog X.w) A (lI (.ref H')) (fun r s'=>r=none/\RH X g s' H/\FD own s'.heap H env m/\∀b o,b∉priv->s.heap.get? b=some o->s'.heap.get? b=some o) (fun z z=>False) s
theorem WB{a:Type}{l:List a}{k:Nat}(h:l.drop k=[])(b:k<=l.length):k=l.length:=io b (kM.mp h)
theorem Sm{a:Type}{l M:List a}{x:a}{k:Nat}(h:l.drop k=x::M):k<l.length/\l[k]?=some x/\l.drop (k+1)=M:=by
 have e:(l.drop k)[0]?=some x:=by refine Z h ?_;rfl
 rw[tN,lh]at e;have d:=rd (l:=l) (i:=1) (j:=k);rw[h]at d;exact⟨(av.mp e).1,e,d.symm⟩
theorem iY.cases{P:Flow->bu->Prop}(b:P .next .next)(c:P .brk .brk)(d:P .cont .cont)(e:∀v a,VR v a->P (.ret v) (.ret a)){f:Flow}{fl:bu}(r:iY f fl):P f fl:=by
 cases f with
 |next=>cases fl with
  |next=>exact b|_=>exact r.elim
 |brk=>cases fl with
  |brk=>exact c|_=>exact r.elim
 |cont=>cases fl with
  |cont=>exact d|_=>exact r.elim
 |ret v=>cases fl with
  |ret a=>exact e v a r|_=>exact r.elim
def qZ(C:U->List V->Prop)(Q:bu->U->List V->Prop)(fl:bu)(H:U)(m:List V):Prop:=@bu.casesOn (fun z=>Prop) fl (C H m) (Q .next H m) (C H m) fun v=>Q (.ret v) H m
variable{H':Addr}
theorem Yy{PF:Fin->cE->Prop}{C:U->List V->Prop}{j:List Addr}(xs:iw d A)(R:RH X g s H)(S:FS own g env)(F:FD own s.heap H env m)
  (ad:∀a∈j,Hid own env g s.heap H a) (u:ST X d H own env m (ot b env) iY (qZ C Q)) (N:∀p B m',RH X g p B->FD own p.heap B env m'->(∀a∈j,(∃o,s.heap.get? a=some o)->Hid own env g p.heap B a)->(∀a∈j,∀o,s.heap.get? a=some o->p.heap.get? a=some o)->C B m'->PF (.again (.forLoop c (.ref H') b [] env)) p)
  (K:∀f p,Hw X g own env Q (.ok f) p->PF (.done f) p) :
  dy (eA X.prog X.w) A (do
    match <-ot b env with
    |.next|.cont=>again (.forLoop c (.ref H') b [] env)
    |.brk=>pure (.done .next)
    |.ret v=>pure (.done (.ret v)):Sem Fin) PF (fun w w=>False) s:=by
 refine BU (C7 R S F) fun AH x y Ab D E=>af (u.use xs x y F fun f t fl h i r k l q=>?_);have n:=k.weaken R.good Ab;have L:=fun z=>N t h i n l (fun a G e=>E _ _ _ k (ad a G) e) (fun a G o e=>k.keep _ _ (D _ _ (ad a G) e)) z;exact r.cases (P:=fun f fl=>qZ C Q fl h i->dy (eA X.prog X.w) A (match f with
    |.next|.cont=>again (.forLoop c (.ref H') b [] env)
    |.brk=>pure (.done .next)
    |.ret v=>pure (.done (.ret v)):Sem Fin) PF (fun w w=>False) t) (fun q=>aE (L q)) (fun q=>aE (K _ _ ⟨.next,rfl,.next,h,i,trivial,n,l,q⟩)) (fun q=>aE (L q)) (fun v a T q=>aE (K _ _ ⟨.ret v,rfl,.ret a,h,i,T,n,l,q⟩)) q
variable{ok:U->Prop}{items:List V}
theorem YU{D:Nat->V->U->List V->Option (List V)}{i:List Addr}{o:Nat->Heap->Prop}(W:lz X d own env c D ok items i H' o)
  {C:Nat->List V->U->List V->Prop} (c0:∀k H m,C k [] H m->ok H/\Q .next H m) (c1:∀k x M H m,C k (x::M) H m->ok H/\∃m',D k x H m=some m'/\ST X d H own env m' (ot b env) iY (qZ (C (k+1) M) Q))
    (ws:iw d A) (R:RH X g s H) (S:FS own g env) (F:FD own s.heap H env m) (hI:∀a∈i,Hid own env g s.heap H a) (h0:o 0 s.heap) (h:C 0 items H m) :
  mB (eA X.prog X.w) A (.forLoop c (.ref H') b [] env) (Hw X g own env Q) s:=by
 refine codeAny_loop' rfl (Wj X g own env items i o C) (fun n t=>?_) items.length ⟨0,items,H,m,rfl,R,F,hI,h0,h,bq _,rfl⟩;rintro⟨k,M,rL,m',hx,R',F',E,hk,hf,hle,rfl⟩;refine wpAny_noted ?_;unfold forTurn;refine af (js (af (wpAny_onRaise ?_)));cases M with
 |nil=>
  rw[WB hx hle]at hk hf;exact aV (c0 _ _ _ hf) fun u q=>db (W.done rL m' A g t u ws R' S F' E hk) (fun r G j=>Bt j fun e ad K w=>Z e (aE (.inr ⟨rfl,codeAny_block (sf ⟨.next,rfl,.next,rL,m',trivial,ad,K,q⟩)⟩))) fun w w x=>x.elim
 |cons x M=>
  refine Di (Sm hx) fun L hix hxs=>Cr (c1 _ _ _ _ _ hf) fun u xs hb y=>db (W.item k x rL m' xs A g t hix u hb ws R' S F' E hk) (fun r G j=>Ad j fun v e hv=>Z e ?_) fun w w x=>x.elim;have p:=af (f:=fun(w:Unit)=>(do
    match <-ot b env with
    |.next|.cont=>again (.forLoop c (.ref H') b [] env)
    |.brk=>pure (.done .next)
    |.ret v=>pure (.done (.ret v)):Sem Fin)) (db hv (fun w aae j=>Bt j fun N Ab B l=>Yy (PF:=fun fin t=>match fin with
     |.done f=>Hw X g own env Q (Except.ok f) t
     |.again c'=>(c'=.forLoop c (.ref H') b [] env/\∃m,m<items.length-k/\Wj X g own env items i o C m t)\/(c'.quiet=true/\mB (eA X.prog X.w) A c' (Hw X g own env Q) t)) ws N S Ab B y (fun aav P T AH aj hst hin z=>Or.inl ⟨rfl,items.length-(k+1),oq items.length k L,k+1,M,P,T,hxs,AH,aj,fun a ha=>hst a ha (W.at_ _ _ l a ha),W.keep _ _ _ l hin,z,L,rfl⟩) fun f t z=>z) fun w w x=>x)
  rw[bind_assoc]at p;exact db p (fun w w x=>x) fun w w x=>x.elim
theorem VV{f:Nat->V->U->List V->Option (List V)}{e:List Addr}{i:Nat->Heap->Prop}(W:lz X d own env c f ok items e H' i)
    (j:iw d A) (R:RH X g s H) (S:FS own g env) (F:FD own s.heap H env m) (k:∀a∈e,Hid own env g s.heap H a) (l:i 0 s.heap)
  (h:forL f ok (fun H m Q=>ST X d H own env m (ot b env) iY Q) Q 0 items H m) :
  mB (eA X.prog X.w) A (.forLoop c (.ref H') b [] env) (Hw X g own env Q) s:=
 YU W (fun x x x h=>h) (fun x x x x x h=>h.imp id fun z=>z.imp fun n y=>⟨y.1,y.2.mono fun fl o n q=>by cases fl<;>exact q⟩) j R S F k l h
inductive Wf(X:Cx)(g:Heap)(own:Bool)(env:Env)(m:List V)(Q:List Addr->Addr->(Nat->Heap->Prop)->U->Prop)(it:bm)(s:cE):Prop where
 |mk (priv:List Addr) (H':Addr) (Itr:Nat->Heap->Prop) (H:U):it=.ref H'->RH X g s H->FD own s.heap H env m->(∀a∈priv,Hid own env g s.heap H a)->Itr 0 s.heap->Q priv H' Itr H->Wf X g own env m Q it s
def IT(X:Cx)(d:Nat)(H:U)(own:Bool)(env:Env)(m:List V)(t:Sem bm)(Q:List Addr->Addr->(Nat->Heap->Prop)->U->Prop):Prop:=
 ∀A g s,iw d A->RH X g s H->FS own g env->FD own s.heap H env m ->
  dy (eA X.prog X.w) A t (fun x a=>dy (eA X.prog X.w) A (pyIter x) (Wf X g own env m Q) (fun z z=>False) a) (fun z z=>False) s
theorem IT.mono{t:Sem bm}{Q Q':List Addr->Addr->(Nat->Heap->Prop)->U->Prop}(h:IT X d H own env m t Q)(q:∀p H' b a,Q p H' b a->Q' p H' b a):IT X d H own env m t Q':=fun A g s f R S F=>
 db (h A g s f R S F) (fun y y z=>db z (fun y y c=>c.casesOn fun p H' b a e R F i j z=>⟨p,H',b,a,e,R,F,i,j,q _ _ _ _ z⟩) fun y y x=>x) fun y y x=>x
theorem nj{a:Expr}(y:∀x,d3 c env x=pure x)
  (h:IT X d H own env m (eval c env) fun i H' n j=>∃k ok items,lz X d own env a k ok items i H' n/\forL k ok (fun H m Q=>ST X d H own env m (ot b env) iY Q) Q 0 items j m) :
  ST X d H own env m (exec (.For a c b [] pos) env) iY Q:=fun A g s u R S F=>by
 refine wpAny_For (db (h A g s u R S F) (fun x v z=>db z (fun D w l=>l.casesOn fun i H' n j e o p B C t=>Cb t fun k ok items W q=>?_) fun Z Z x=>x) fun Z Z x=>x) y;subst e;exact iA (VV W u o S p B C q) fun r E l=>l.casesOn fun f e z=>by subst e;exact z
noncomputable def jD:List String:=["enumerate","zip","dict_itemiterator","dict_reverseitemiterator","odict_iterator","itertools.zip_longest","itertools.pairwise"]
inductive UM(s:cE)(priv:List Addr)(P:Heap->Prop)(x:V)(r:Option bm)(s':cE):Prop where
 |mk (v:bm) (h':Heap) (t:Nat):r=some v->VR v x->s'={s with heap:=h',toks:=t}->(∀b o,b∉priv->s.heap.get? b=some o->h'.get? b=some o)->P h'->UM s priv P x r s'
structure gj(X:Cx)(d:Nat)(ok:U->Prop)(items:List V)(priv:List Addr)(H':Addr)(Itr:Nat->Heap->Prop):Prop where
 at_:∀k h,Itr k h->∀a∈priv,∃o,h.get? a=some o
 keep:∀k h h',Itr k h->(∀a∈priv,∀o,h.get? a=some o->h'.get? a=some o)->Itr k h'
 cls:∀k h,Itr k h->∃o n,h.get? H'=some o/\o.cls=.type n/\jD.contains n=false
 item:∀k x H A g s,items[k]?=some x->ok H->iw d A->RH X g s H->(∀a∈priv,¬AY s.heap H a/\g.get? a=none)->Itr k s.heap ->
  dy (eA X.prog X.w) A (lI (.ref H')) (UM s priv (Itr (k+1)) x) (fun z z=>False) s
 done:∀H A g s,ok H->iw d A->RH X g s H->(∀a∈priv,¬AY s.heap H a/\g.get? a=none)->Itr items.length s.heap ->
  dy (eA X.prog X.w) A (lI (.ref H')) (fun r s'=>r=none/\∃h' t,s'={s with heap:=h',toks:=t}/\(∀b o,b∉priv->s.heap.get? b=some o->h'.get? b=some o)) (fun z z=>False) s
def Pl(X:Cx)(d:Nat)(own:Bool)(env:Env)(a:Expr)(b:Nat->V->U->List V->Option (List V)):Prop:=
 ∀k x H m e v,b k x H m=some e->VR v x->UT X d H own env m (o1 a env v) fun f c=>f=H/\c=e
theorem PU{target:Expr}{E:bm->cE->Prop}{Q:Unit->cE->Prop}{xs:Model}(h:∃o n,s.heap.get? H'=some o/\o.cls=.type n/\jD.contains n=false)(q:Q () s):
  dy xs A (sg target (.ref H') v) Q E s:=by
 refine Ay (h) fun o n e hc hn=>?_;have key:dy xs A (do
  let(.ref r,.ref a):=((.ref H':bm),v)|return
  let o <-load r
  match o.cls,o.data with
  |.type n,.fields vs=>
   if["enumerate","zip","dict_itemiterator","dict_reverseitemiterator","odict_iterator","itertools.zip_longest","itertools.pairwise"].contains n&&vs[0]?==some (l8 a)then
    rule "for.unpacks-the-owned-tuple"
    updateField r 0 .none
  |_,_=>pure ()) Q E s:=by
  cases v<;>first|exact aE q|skip
  refine af (wpAny_load e (Z hc ?_));cases o.data<;>first|exact aE q|skip
  show dy xs A (if(jD.contains n&&_)=true then _ else _) Q E s;exact Z hn (Z (Bool.false_and ..) (Z (if_neg ax) (aE q)))
 unfold sg;cases target<;>first|exact aE q|exact key
theorem gj.iter{b:List Addr}{n:Nat->Heap->Prop}{f:Expr}{p:Nat->V->U->List V->Option (List V)}(W:gj X d ok items b H' n)(T:Pl X d own env f p):
  lz X d own env f p ok items b H' n where
 at_:=W.at_
 keep:=W.keep
 item k x H m m' A g s hx hok hb hA R S F hI hk:=by
  refine db (W.item k x H A g s hx hok hA R (fun a c=>⟨(hI a c).free,(hI a c).new⟩) hk) (fun r K h=>h.casesOn fun v y t z L es j l=>⟨v,z,?_⟩) fun Z Z x=>x;subst es;have w:∀a,a∈b->¬AY s.heap H a/\g.get? a=none:=fun a c=>⟨(hI a c).free,(hI a c).new⟩
  have xs:=R.d7 (·∈b) w j (t:=t);have D:=F.d7 S R (·∈b) hI j;have q:∀a∈b,Hid own env g y H a:=fun a c=>(hI a c).d7 R (·∈b) w j;refine af (PU (W.cls _ _ l) (BU (C7 (s:={s with heap:=y,toks:=t}) xs S D) fun ws N Ab P B C=>(T k x H m m' v hb L).use hA N Ab D (fun Z E Z G ad Z i u h=>aV h fun Q AH=>?_)));subst Q AH;exact⟨i.weaken R.good P,u,fun a c=>C _ _ _ i (q a c) (W.at_ _ _ l a c),W.keep _ _ _ l fun a c o e=>i.keep _ _ (B _ _ (q a c) e)⟩
 done H m A g s hok hA R S F hI hk:=by
  refine db (W.done H A g s hok hA R (fun a c=>⟨(hI a c).free,(hI a c).new⟩) hk) (fun r K h=>aV h fun z aj=>AQ aj fun y t es j=>?_) fun Z Z x=>x;subst es;have w:∀a,a∈b->¬AY s.heap H a/\g.get? a=none:=fun a c=>⟨(hI a c).free,(hI a c).new⟩
  exact⟨z,R.d7 (·∈b) w j (t:=t),F.d7 S R (·∈b) hI j,j⟩
noncomputable def AB(i:Nat):Nat->V->U->List V->Option (List V):=fun z x z m=>some (m.set i x)
def Bc(is:List Nat):Nat->V->U->List V->Option (List V):=fun z x H m=>match x with
 |.ref r=>match H r with
  |some (.tup a)=>if a.length=is.length then some (Do m is a)else none
  |_=>none
 |_=>none
theorem Qg{x:Str}{k:ce}(a:env.scope.names[i]?=some (x,k))(b:k=.local\/(k=.cell/\own=true)):Pl X d own env (.Name x p) (AB i):=fun j y H m f v c e=>by
 cases c;exact Lf a b e ⟨rfl,rfl⟩
set_option tactic.hygienic true in
theorem X8{es:List Expr}{k:Nat}(T:gR own env es is):Pl X d own env (.Tuple es k p) (Bc is):=fun j y H m g v a c=>by
 cases y with
 |ref r=>
  unfold Bc at a;dsimp only at a;cases e:H r with
  |none=>rw[e]at a;exact absurd a.symm (kN _)
  |some o=>
   rw[e]at a;cases o with
   |tup f=>exact(Decidable.em (f.length=is.length)).elim (fun b=>PY T c e b ⟨rfl,ag ((if_pos b).symm.trans a)⟩) fun b=>absurd (a.symm.trans (if_neg b)) (kN _)
   |_=>exact absurd a.symm (kN _)
 |_=>exact absurd a.symm (kN _)
def K0(l H':Addr):Nat->Heap->Prop:=fun k h=>h.IsListIter H' l k
theorem gj.list{l:Addr}:gj X d (fun H=>H l=some (.list M)) M [H'] H' (K0 l H') where
 at_ k h hk a ha:=by
  obtain rfl:=Bb ha;exact Ad hk fun o e y=>⟨o,e⟩
 keep k h f hk q:=by refine Ad hk fun o e r=>?_;exact⟨o,q H' (.head _) o e,r⟩
 cls k h hk:=by refine Az hk fun o e c y=>?_;exact⟨o,_,e,c,dd rfl⟩
 item k x H A g s hx hok hA R hI hk:=by
  refine Ad (R.own _ _ hok) fun p i r=>Ad (r.get hx) fun v t u=>wpAny_pyNext_list_item hk i.isList (by simpa using t) fun f j m=>⟨v,f,s.toks,rfl,u,rfl,fun b o n e=>m.extBut b o (fun z=>n (z▸.head _)) e,j⟩
 done H A g s hok hA R hI hk:=by
  refine Ad (R.own _ _ hok) fun p i r=>wpAny_pyNext_list_end hA.handled hk i.isList (by refine Z (ap r.length) ?_;simp) fun f m=>⟨rfl,f,s.toks,rfl,fun b o n e=>m b o (fun z=>n (z▸.head _)) e⟩
theorem n6{t:Sem bm}{Q:List Addr->Addr->(Nat->Heap->Prop)->U->Prop}(h:ET X d H own env m t VR fun a b=>∃l M,a=.ref l/\b l=some (.list M)/\∀H',Q [H'] H' (K0 l H') b):IT X d H own env m t Q:=fun A g s k R S F=>
 h.use k R S F (fun v f a b n c i j=>Ay j fun l M o e q=>by
  subst o;obtain rfl:=n;refine Ad (c.own _ _ e) fun w p r=>qV p.isList ⟨[f.heap.objs.size],f.heap.objs.size,K0 l _,b,rfl,c.cQ _,i.push c _,fun a u=>?_,⟨_,cn _ rfl,rfl,rfl⟩,q _⟩;obtain rfl:=Bb u;exact Hid.fresh c i _)
end
section
variable{X:Cx}{d:Nat}{H:U}{own:Bool}{env:Env}{m:List V}{pos p:Pos}{Q:List Addr->Addr->(Nat->Heap->Prop)->U->Prop}
abbrev Aas(X:Cx)(own:Bool)(env:Env)(m:List V)(A:iL)(g:Heap)(Q:List Addr->Addr->(Nat->Heap->Prop)->U->Prop):bm->cE->Prop:=fun x aac=>
 dy (eA X.prog X.w) A (pyIter x) (Wf X g own env m Q) (fun z z=>False) aac
theorem MD{x:Str}{n:String}{e:Expr}(u:eB e=false)(C:env.scope.names.lookup x=some uj)(D:Ku X x (.typ n))(E:(x==("__debug__":Str))=false)
  (h:ET X d H own env m (eval e env) VR fun a b=>∀A g s v,iw d A->RH X g s b->FS own g env->FD own s.heap b env m->VR v a->dy (eA X.prog X.w) A (PySem.call (.type n) [v]) (Aas X own env m A g Q) (fun w w=>False) s) :
  IT X d H own env m (eval (.Call (.Name x p) [e] [] pos) env) Q:=fun A g s o R S F=>by
 refine Call_Name rfl ((Rl (Q:=fun y b=>y=.typ n/\b=H) C D E ⟨rfl,rfl⟩).use o R S F (fun f z y b r i j t=>aV t fun G H'=>?_));subst G H';obtain rfl:=r;exact I4 (K:=X.K) (first:=[]) (trees:=kD pos (ix [e] env)) trivial (HB (by simp[u])) (Z (Ex u) (Z GA (spliced_cons (h.use o i S j (fun v k a B ad c l q=>spliced_nil ⟨c.dN.1,q A g k v o c S l ad⟩)))))
def Oc(l:Addr)(n:Nat)(H':Addr):Nat->Heap->Prop:=fun k h=>k<=n/\h.IsRevIter H' l ((n:Int)-1-(k:Int))
theorem gj.rev{l H':Addr}{M:List V}:gj X d (fun H=>H l=some (.list M)) M.reverse [H'] H' (Oc l M.length H') where
 at_ k h hk a ha:=by
  obtain rfl:=Bb ha;exact Ad hk.2 fun o e Z=>⟨o,e⟩
 keep k h m hk q:=⟨hk.1,hk.2.at fun o e=>q H' (.head _) o e⟩
 cls k h hk:=by refine Az hk.2 fun o e c Z=>?_;exact⟨o,_,e,c,dd rfl⟩
 item k x H A g s hx hok hA R hI hk:=by
  refine Ad (R.own _ _ hok) fun B t r=>?_;have i:k<M.length:=by
   have:=(av.mp hx).1;rwa [da]at this
  rw[sK i]at hx;refine Ad (r.get hx) fun v u w=>?_;have e:=rW i;have f:=hk.2;rw[e]at f;refine wpAny_pyNext_rev_item f t.isList (by simpa using u) fun m j n=>⟨v,m,s.toks,rfl,w,rfl,fun b o p e=>n.extBut b o (fun z=>p (z▸.head _)) e,by exact l4 i,?_⟩
  have y:=ar1 i;rw[y]at j;exact j
 done H A g s hok hA R hI hk:=by
  have f:=hk.2;rw[da]at f;have e:(M.length)-1-(M.length:Int)=-1:=by exact sP.mpr rfl
  rw[e]at f;refine wpAny_pyNext_rev_end hA.handled f fun m n=>⟨rfl,m,s.toks,rfl,fun b o p e=>n b o (fun z=>p (z▸.head _)) e⟩
def Jg(n:Nat)(H':Addr):Nat->Heap->Prop:=fun k h=>k<=n/\IsRangeIter h H' (k:Int) ((n:Int)-(k:Int)) 1
noncomputable def PP(n:Nat):List V:=(ej n).map fun(i:Nat)=>.int i
theorem gj.range{n:Nat}{H':Addr}:gj X d (fun y=>True) (PP n) [H'] H' (Jg n H') where
 at_ k h hk a ha:=by
  obtain rfl:=Bb ha;exact⟨_,hk.2⟩
 keep k h i hk q:=⟨hk.1,q H' (.head _) _ hk.2⟩
 cls k h hk:=⟨_,_,hk.2,rfl,dd rfl⟩
 item k x H A g s hx hok hA R hI hk:=by
  have c:k<n:=Z (b:=n) (ap ((ac ..).trans fo)) (av.mp hx).1;obtain rfl:.int k=x:=ag (((b9 ..).trans (Z (to c) rfl)).symm.trans hx);refine wpAny_pyNext_range_item hk.2 (ar2 c) fun i j l=>⟨_,i,_,rfl,⟨_,rfl⟩,rfl,fun b o m e=>l.extBut b o (fun z=>m (z▸.head _)) e,by exact l4 c,?_⟩
  have p:((k+1:Nat):Int)=(k:Int)+1:=by exact r6 rfl rfl
  have r:(n:Int)-((k+1:Nat):Int)=(n:Int)-(k:Int)-1:=u0;exact Z r (Z p j)
 done H A g s hok hA R hI hk:=by
  have f:=hk.2;rw[show(PP n).length=n from(ac ..).trans fo]at f;refine wpAny_pyNext_range_end hA.handled f (xJ) fun i l=>⟨rfl,i,s.toks,rfl,fun b o m e=>l b o (fun z=>m (z▸.head _)) e⟩
theorem U0{x:Str}{e:Expr}(j:eB e=false)(k:env.scope.names.lookup x=some uj)(l:Ku X x (.typ "range"))(r:(x==("__debug__":Str))=false)
  (h:ET X d H own env m (eval e env) VR fun a aaa=>∃n:Nat,a=.int n/\n<2^60/\∀H',Q [H'] H' (Jg n H') aaa):IT X d H own env m (eval (.Call (.Name x p) [e] [] pos) env) Q:=
 MD j k l r (h.mono fun a aaa b=>Az b fun n u C q A g s v D R S F w=>by
  subst u;refine AA w fun t c=>?_;subst c;refine call_range_1 ?_;have y:=R.cQ {cls:=.type "range",data:=.fields #[.int 0 s.toks,.int n t,.int 1 (s.toks+1)]};have i:=F.push R {cls:=.type "range",data:=.fields #[.int 0 s.toks,.int n t,.int 1 (s.toks+1)]};have f:RH X g {s with heap:=s.heap.push {cls:=.type "range",data:=.fields #[.int 0 s.toks,.int n t,.int 1 (s.toks+1)]},toks:=s.toks+1+1} aaa:=y.toks _;have z:Builtin.Range.rangeSize 0 (n) 1=(n):=by
   refine Z (rangeSize_one ..) ?_;split<;>lia
  refine wpAny_pyIter_range (IsRange.new ..) (small_one (Int.neg_ofNat_le_ofNat (2^62) 0) (kbt_pos 62) (sk (2^62) n) (by lia)) ⟨[_],_,Jg n _,aaa,rfl,f.cQ _,i.push f _,fun a B=>?_,⟨bq _,?_⟩,q _⟩
  ·obtain rfl:=Bb B;exact Hid.fresh f i _
  ·refine Z z ?_;have:=cn (s.heap.push {cls:=.type "range",data:=.fields #[.int 0 s.toks,.int n t,.int 1 (s.toks+1)]}) (o:={cls:=.type "range_iterator",data:=.fields #[l8 0,l8 n,l8 1]}) rfl;simpa[IsRangeIter]using this)
def N3(D:Addr)(n a:Nat)(H':Addr):Nat->Heap->Prop:=fun k h=>h.IsKeyIter H' D k n a
noncomputable def HF(es:List (String×V)):List V:=es.map fun p=>.str p.1
theorem j5.key{a:List (Str×bm)}{es:List (String×V)}(r:j5 a es){k:Nat}{p:String×V}(h:es[k]?=some p):∃v,a[k]?=some (ae p.1,v):=by
 induction a generalizing es k with
 |nil=>cases es with|nil=>cases h|cons _ _=>exact r.elim
 |cons q a b=>
  cases es with
  |nil=>cases h
  |cons z es=>
   cases k with
   |zero=>cases h;exact⟨q.2,by exact Z (List.getElem?_cons_zero) (Z (ap r.1) rfl)⟩
   |succ k=>exact b r.2.2 h
theorem gj.dict{D H':Addr}{es:List (String×V)}{ep:Nat}:gj X d (fun H=>H D=some (.dict es ep)) (HF es) [H'] H' (N3 D es.length ep H') where
 at_ k h hk a ha:=by
  obtain rfl:=Bb ha;exact Ad hk fun o e Y=>⟨o,e⟩
 keep k h m hk q:=by refine Ad hk fun o e r=>?_;exact⟨o,q H' (.head _) o e,r⟩
 cls k h hk:=by refine Az hk fun o e c Y=>?_;exact⟨o,_,e,c,dd rfl⟩
 item k x H A g s hx hok hA R hI hk:=by
  refine Cr (R.own _ _ hok) fun Y f n r=>?_;unfold HF at hx;rw[b9]at hx;cases p:es[k]? with
  |none=>rw[p]at hx;cases hx
  |some C=>
   rw[p]at hx;cases hx;refine AA (r.key p) fun v B=>?_;have i:s.heap.IsKeyIter H' D k f.length ep:=Z r.length hk;refine wpAny_pyNext_dict_item i n B fun u m j l w=>⟨u,m,s.toks,rfl,?_,rfl,fun b o y e=>w.extBut b o (fun z=>y (z▸.head _)) e,?_⟩
   ·exact AA (Value.isStrOf_shape j) fun t e=>⟨t,e⟩
   ·rw[r.length]at l;exact l
 done H A g s hok hA R hI hk:=by
  refine Cr (R.own _ _ hok) fun Y f n r=>?_;have i:s.heap.IsKeyIter H' D (HF es).length f.length ep:=Z r.length hk;refine wpAny_pyNext_dict_end hA.handled i n (List.getElem?_eq_none_iff.mpr (ct (r.length.trans (ac _).symm))) fun m w=>⟨rfl,m,s.toks,rfl,fun b o y e=>w b o (fun z=>y (z▸.head _)) e⟩
theorem Yu{t:Sem bm}(h:ET X d H own env m t VR fun a b=>∃D es j,a=.ref D/\b D=some (.dict es j)/\∀H',Q [H'] H' (N3 D es.length j H') b):IT X d H own env m t Q:=fun A g s l R S F=>
 h.use l R S F (fun v f a b n c i k=>Br k fun D es j o e q=>by
  subst o;obtain rfl:=n;refine Cr (c.own _ _ e) fun p u w r=>wpAny_pyIter_dict p w ⟨[f.heap.objs.size],f.heap.objs.size,N3 D es.length j _,b,rfl,c.cQ _,i.push c _,fun a x=>?_,⟨_,cn _ rfl,rfl,by refine Z r.length ?_;rfl⟩,q _⟩;obtain rfl:=Bb x;exact Hid.fresh c i _)
def KR(l e a:Addr):Nat->Heap->Prop:=fun k h=>e≠a/\h.IsListIter a l k/\∃b,IsEnum h e a (k:Int) b
def Oo(is:List Nat):Nat->V->U->List V->Option (List V):=fun k x z m=>some (Do m is [.int k,x])
theorem lz.enum{l e f:Addr}{M:List V}{es:List Expr}{is:List Nat}{k:Nat}(T:gR own env es is)(h2:is.length=2):
  lz X d own env (.Tuple es k p) (Oo is) (fun H=>H l=some (.list M)) M [e,f] e (KR l e f) where
 at_ k h hk a ha:=by
  refine Gz (hk) fun Y C B W=>Ad C fun o K Y=>?_;rcases ED ha with rfl|ha
  ·exact⟨_,W⟩
  ·obtain rfl:=Bb ha;exact⟨o,K⟩
 keep k h h' hk q:=by
  exact Gz (hk) fun j C B W=>Ad C fun o K r=>⟨j,⟨o,q f (.tail _ (.head _)) o K,r⟩,B,q e (.head _) _ W⟩
 item k x H m m' A g s hx hok ad hA R S F hI hk:=by
  refine Gz (hk) fun j L B he=>Ad (R.own _ _ hok) fun vs hl r=>Ad (r.get hx) fun v hv rv=>?_;cases ad;refine wpAny_pyNext_enum_item he L hl.isList (by simpa using hv) j fun i heo G xs aa9 N=>⟨_,rfl,?_⟩
  have hP:∀a,a∈[e,f]->¬AY s.heap H a/\g.get? a=none:=fun a ha=>⟨(hI a ha).free,(hI a ha).new⟩
  have Ab:∀b o,b∉[e,f]->s.heap.get? b=some o->i.get? b=some o:=fun b o ad ws=>N b o (fun z=>ad (z▸.head _)) (fun z=>ad (z▸.tail _ (.head _))) ws;have R1:=R.d7 (·∈[e,f]) hP Ab (t:=s.toks+1);have F1:=F.d7 S R (·∈[e,f]) hI Ab;have H':∀a∈[e,f],Hid own env g i H a:=fun a ha=>(hI a ha).d7 R (·∈[e,f]) hP Ab;refine af (wpAny_letOwnedTupleGo_enum heo fun aap D u=>?_);have rL:∀a,a∈[e,f]->¬AY i H a/\g.get? a=none:=fun a ha=>⟨(H' a ha).free,(H' a ha).new⟩
  have P:∀b o,b∉[e,f]->i.get? b=some o->aap.get? b=some o:=fun b o ad ws=>u.extBut b o (fun z=>ad (z▸.head _)) ws;have R2:=RH.d7 (s:={s with heap:=i,toks:=s.toks+1}) R1 (·∈[e,f]) rL P (t:=s.toks+1);have F2:=FD.d7 (s:={s with heap:=i,toks:=s.toks+1}) F1 S R1 (·∈[e,f]) H' P;have AH:∀a∈[e,f],Hid own env g aap H a:=fun a ha=>Hid.d7 (s:={s with heap:=i,toks:=s.toks+1}) (H' a ha) R1 (·∈[e,f]) rL P;have het:s.heap.objs.size≠e:=fun z=>dQ _ (z▸dt he);have aj:aap.get? s.heap.objs.size=some {cls:=.type "tuple",data:=.seq #[.int k s.toks,v]}:=(u.2 _ het).trans xs;have w:aap.IsListIter f l (k+1):=G.extBut u.extBut (kl j);have hk2:KR l e f (k+1) aap:=⟨j,w,v,by
   have:((k+1:Nat):Int)=(k:Int)+1:=by exact r6 rfl rfl
   refine Z this ?_;exact D⟩
  have at2:∀a∈[e,f],∃o,aap.get? a=some o:=fun a ha=>by
   rcases ED ha with rfl|ha
   ·exact⟨_,D⟩
   ·obtain rfl:=Bb ha;exact Ad w fun o K Y=>⟨o,K⟩
  refine BU (C7 (s:={s with heap:=aap,toks:=s.toks+1}) R2 S F2) fun g' R3 S3 kk hin hst=>?_;show dy _ _ (do standAt p;unpack _ (kU es env)) _ _ _;refine af (js ?_);unfold unpack;refine aV T.each fun h1 h3=>Z h1 (Z h3 (Z T.length (Z h2 (af (eT ?_)))));have itup:IsTup aap s.heap.objs.size #[.int k s.toks,v]:=⟨_,aj,rfl,_,rfl⟩
  refine unpackItems_tuple (items:=#[.int k s.toks,v]) hA.handled itup fun E hx3=>?_;have n:∀b o,aap.get? b=some o->E.get? b=some o:=fun b o e=>hx3 b o (dL (dt e)) e;have R4:RH X g' {s with heap:=E,toks:=s.toks+1} H:=RH.extend (s:={s with heap:=aap,toks:=s.toks+1}) R3 n;have F4:FD own E H env m:=F2.moved (fun q=>F2.km (R2.bJ n q)) (fun o e=>n _ _ e) (fun ho x c hx hc q=>F2.lG ho x c hx hc (R2.bJ n q)) fun x c kd o hx hk hc e=>n _ _ e;have rs:cj [.int k s.toks,v] [.int k,x]:=⟨⟨_,rfl⟩,rv,trivial⟩
  refine(Sp (X:=X) (d:=d) (Q:=fun I m'=>I=H/\m'=Do m is [.int k,x]) T rs (by refine Z h2 ?_;rfl) ⟨rfl,rfl⟩).use hA R4 S3 F4 (fun Y aaY Y aao aba Y y aaF zqz=>aV zqz fun e1 e2=>?_);subst e1 e2;have hst':=fun a ha=>hst a _ _ y (AH a ha) (at2 a ha);exact⟨y.weaken R.good kk,aaF,hst',(Gz (hk2) fun j C B W=>Ad C fun o K r=>⟨j,⟨o,y.keep _ _ (hin _ _ (AH f (.tail _ (.head _))) K),r⟩,B,y.keep _ _ (hin _ _ (AH e (.head _)) W)⟩)⟩
 done H m A g s hok hA R S F hI hk:=by
  refine Gz (hk) fun j L B he=>Ad (R.own _ _ hok) fun vs hl r=>?_;have hP:∀a,a∈[e,f]->¬AY s.heap H a/\g.get? a=none:=fun a ha=>⟨(hI a ha).free,(hI a ha).new⟩
  refine wpAny_pyNext_enum_end hA.handled he L hl.isList (by refine Z (ap r.length) ?_;simp) fun h' hs=>?_;have Ab:∀b o,b∉[e,f]->s.heap.get? b=some o->h'.get? b=some o:=fun b o ad ws=>hs b o (fun z=>ad (z▸.tail _ (.head _))) ws;exact⟨rfl,R.d7 (·∈[e,f]) hP Ab (t:=s.toks),F.d7 S R (·∈[e,f]) hI Ab,Ab⟩
theorem YY{x:Str}{e:Expr}(j:eB e=false)(k:env.scope.names.lookup x=some uj)(C:Ku X x (.typ "enumerate"))(D:(x==("__debug__":Str))=false)
  (h:ET X d H own env m (eval e env) VR fun a aaa=>∃l M,a=.ref l/\aaa l=some (.list M)/\∀H' z,Q [H',z] H' (KR l H' z) aaa):IT X d H own env m (eval (.Call (.Name x p) [e] [] pos) env) Q:=
 MD j k C D (h.mono fun a aaa u=>Ay u fun l M E e q A g s v Ab R S F G=>by
  subst E;obtain rfl:v=.ref l:=G;obtain⟨P,⟨n,ad⟩,r⟩:=R.own _ _ e;refine call_enumerate_1 ad fun t j w T K=>wpAny_pyIter_enum j ?_;have f:∀b o,s.heap.get? b=some o->t.get? b=some o:=K;have L:RH X g {s with heap:=t} aaa:=R.extend f;have xs:FD own t aaa env m:=F.moved (fun q=>F.km (R.bJ f q)) (fun o e=>f _ _ e) (fun N x c k B q=>F.lG N x c k B (R.bJ f q)) fun x c AH o k aj B e=>f _ _ e;have y:∀a,s.heap.objs.size<=a->Hid own env g t aaa a:=fun a i=>⟨fun q=>dQ _ (bv (R.fj (R.bJ f q)) i),by
   cases e:g.get? a with
   |none=>rfl|some o=>exact absurd (dt (R.keep _ _ e)) (i3.mpr i),fun q=>dQ _ (bv (F.lV q) i)⟩
  refine⟨[s.heap.objs.size+1,s.heap.objs.size],s.heap.objs.size+1,KR l _ _,aaa,rfl,L,xs,fun a i=>y a ?_,⟨Nat.succ_ne_self _,w,.none,j⟩,q _ _⟩;rcases ED i with rfl|i
  ·exact ip _
  ·obtain rfl:=Bb i;exact ai _)
end
namespace F
theorem Gv:th.lookup (q5 ['d','e','s','r','e','v','e','r'].reverse)=some Manifest.sig_reversed:=by kernel_rfl
theorem bT:Slot "reversed" "__next__" "reversed.__next__":=
 .of (owner:="reversed") (n:="__next__") (by refine Z (jp ..) (Z gT ?_);kernel_rfl) (by decide +kernel) (by decide +kernel) (by decide +kernel)
  (by first|exact .inl (by decide +kernel)|exact .inr (by decide +kernel)) (by refine Z (kA ..) ?_;kernel_rfl)
theorem dH:entryFor table "reversed.__next__"=some kg.«reversed.__next__»:=entryFor_of_tree (by kernel_rfl)
theorem HO:Slot "reversed" "__init__" "object.__init__":=
 .of (owner:="object") (n:="__init__") (by refine Z (jp ..) (Z gT ?_);kernel_rfl) (by decide +kernel) (by decide +kernel) (by decide +kernel)
  (by first|exact .inl (by decide +kernel)|exact .inr (by decide +kernel)) (by refine Z (kA ..) ?_;kernel_rfl)
theorem dU:Slot "reversed" "__iter__" "reversed.__iter__":=
 .of (owner:="reversed") (n:="__iter__") (by refine Z (jp ..) (Z gT ?_);kernel_rfl) (by decide +kernel) (by decide +kernel) (by decide +kernel)
  (by first|exact .inl (by decide +kernel)|exact .inr (by decide +kernel)) (by refine Z (kA ..) ?_;kernel_rfl)
theorem jq:TypeCalled "reversed" "reversed.__new__" "object.__init__":=
 ⟨by decide +kernel,PySem.F.create_reversed,⟨_,_,PySem.F.mro_reversed⟩,PySem.F.made_reversed,by decide +kernel,PySem.F.sub_reversed_self,HO⟩
theorem gJ:typeLookup (.type "tuple") "__reversed__"=pure none:=by refine Z (jp ..) (Z gT ?_);kernel_rfl
theorem du:typeLookup (.type "tuple") "__getitem__"=pure (some (.builtin "tuple.__getitem__")):=by refine Z (jp ..) (Z gT ?_);kernel_rfl
theorem gV:entryFor table "reversed.__iter__"=some kg.«dict_keyiterator.__iter__»:=
 sw (id':="dict_keyiterator.__iter__") (by kernel_rfl) (by first|rfl|decide +kernel|(unfold String.splitOn;simp +decide [String.splitOnAux])) (by decide +kernel) (by kernel_rfl)
theorem dm(a:bm):rq "reversed.__next__" ⟨[a],[]⟩:=by
 unfold rq;refine Z (qa (id:="reversed.__next__") (n:=['_','_','t','x','e','n','_','_']) (o:=['d','e','s','r','e','v','e','r']) (by kernel_rfl) Gv) ?_;kernel_rfl
theorem gM(a:bm):rq "reversed.__iter__" ⟨[a],[]⟩:=by
 unfold rq;refine Z (qa (id:="reversed.__iter__") (n:=['_','_','r','e','t','i','_','_']) (o:=['d','e','s','r','e','v','e','r']) (by kernel_rfl) Gv) ?_;kernel_rfl
end F
section
variable{prog:om}{w:nK}{A:iL}{E:bm->cE->Prop}{s:cE}
abbrev HM(h:Heap)(H' t:Addr)(i:Int):Prop:=h.get? H'=some {cls:=.type "reversed",dict:=none,data:=.fields #[.ref t,l8 i],slots:=#[]}
noncomputable def mL(t:Addr)(i:Int):Obj:={cls:=.type "reversed",data:=.fields #[.ref t,l8 i]}
theorem Hv(t:Addr)(items:Array bm):Meets (kg.«reversed.__new__» ⟨[.type "reversed",.ref t],[]⟩) (fun z R s=>mI s.heap t items/\(items.size:Int)<2^63 /\
   ∀tk,R (.ok (.ret (.ref s.heap.objs.size))) {s with heap:=s.heap.push (mL t ((items.size:Int)-1)),toks:=tk}):=
 .of_wp fun prog w A R s h=>by
  refine Di h fun ht hz h=>?_;unfold kg.«reversed.__new__»;refine af (h8 (newClass_reversed _) ?_);try dsimp only
  refine af (h8 (a:=()) (by first|rfl|kernel_rfl) (af (h8 (a:=()) (by first|rfl|kernel_rfl) ?_)));try dsimp only
  refine af (ly ht.typeIs F.gJ ?_);try dsimp only
  refine af (af (m:=isInstance (.ref t) (.type "dict")) (nz (b:=false) ht.typeIs PySem.F.sub_tuple_dict (Z (if_neg ax) (af (m:=specialOf (.ref t) "__getitem__") (ly ht.typeIs F.du ?_)))));try dsimp only
  refine h8 (a:=true) (by kernel_rfl) ?_;try dsimp only
  refine Z (if_neg (dd rfl)) (af (PyProof.Rows.len_tuple ht hz (af (h8 (a:=some (items.size:Int)) rfl ?_))));try dsimp only
  refine af (m:=q6 _ _) ?_;unfold q6;exact gy (aE ⟨_,rfl,h _⟩)
variable{t:Addr}
theorem I9{items:Array bm}{Q:bm->cE->Prop}(ht:mI s.heap t items)(hz:(items.size:Int)<2^63)
  (h:∀tk,Q (.ref s.heap.objs.size) {s with heap:=s.heap.push (mL t ((items.size:Int)-1)),toks:=tk}):dy (eA prog w) A (call (.type "reversed") [.ref t]) Q E s:=
 callType_new F.jq (dd rfl) (PySem.F.typeCall_reversed_1 _) (PySem.F.newCall_reversed_1 _) (fun obj=>PySem.F.args_object_init_2 obj _) PySem.F.entry_reversed_new (Hv t items)
  ⟨ht,hz,fun tk=>⟨⟨_,cn _ rfl,rfl⟩,h tk⟩⟩
variable{H':Addr}
theorem DX{i:Int}{Q:bm->cE->Prop}(b:HM s.heap H' t i)(h:Q (.ref H') s):dy (eA prog w) A (pyIter (.ref H')) Q E s:=by
 have a:s.TypeIs (.ref H') "reversed":=⟨_,b,rfl⟩
 refine qS a F.dU (ia F.dU a F.gV ?_ (F.gM _));show dy _ _ (ret (.ref H')) _ _ s;exact aE ⟨_,rfl,"reversed",_,a,F.bT.lookup,h⟩
theorem Fk{i:Nat}{items:Array bm}{x:bm}{Q:Option bm->cE->Prop}(hit:HM s.heap H' t (i:Int))(hi:(i:Int)<2^63)(ht:mI s.heap t items)(hx:items[i]?=some x)
  (hQ:∀h' tk,HM h' H' t ((i:Int)-1)->gI H' s.heap h'->Q (some x) {s with heap:=h',toks:=tk}):dy (eA prog w) A (lI (.ref H')) Q E s:=by
 have hT:s.TypeIs (.ref H') "reversed":=⟨_,hit,rfl⟩
 unfold lI;refine af (mP (iP (name:=ae "__next__") hT F.bT
  (ia F.bT hT F.dH ?_ (F.dm _))))
 unfold kg.«reversed.__next__»;refine af (h8 (a:=(gi H',[])) rfl ?_);try dsimp only
 refine af (oS hit rfl (x:=.ref t) rfl (af (oS hit rfl (x:=l8 (i:Int)) rfl ?_)));show dy _ _ (if(i:Int)<0 then _ else _) _ _ s;refine Z (if_neg (Int.not_ofNat_neg i)) ?_;show dy _ _ (specialOf (.ref t) "__getitem__" >>= _) _ _ s;refine af (ly ht.typeIs F.du ?_);try dsimp only
 show dy _ _ (if(Option.isNone (some (Value.builtin "tuple.__getitem__")))=true then _ else _) _ _ s;refine Z (if_neg (dd rfl)) ?_;show dy _ _ ((mkInt (i:Int) >>= fun y=>getItem (.ref t) y).attempt >>= _) _ _ s;have hlt:i<items.size:=(eI.mp hx).1;refine af (mP (af (wpAny_mkInt (PyProof.Rows.getItem_tuple (j:=i) ht (sk (2^63) i) hi ?_ hx ?_))))
 ·unfold seqIndex?;have:¬(i:Int)<0:=Int.not_ofNat_neg i;simp only[this,if_false,eS];first|(rw[if_pos hlt])|(simp[hlt])
 try dsimp only
 refine af (oS (s:={s with toks:=s.toks+1}) hit rfl (x:=l8 (i:Int)) rfl ?_);show dy _ _ (setField (.ref H') 1 (l8 ((i:Int)-1)) >>= _) _ _ _;exact af (kz (s:={s with toks:=s.toks+1}) hit rfl (by simp) (aE ⟨x,rfl,aE (hQ _ _ (f5 _ hit rfl) (dT ..))⟩))
theorem F5{Q:Option bm->cE->Prop}(hh:A.handled=none)(hit:HM s.heap H' t (-1))
  (hQ:∀h',Heap.ExtBut H' s.heap h'->Q none {s with heap:=h'}):dy (eA prog w) A (lI (.ref H')) Q E s:=by
 have hT:s.TypeIs (.ref H') "reversed":=⟨_,hit,rfl⟩
 unfold lI;refine af (mP (iP hT F.bT
  (ia F.bT hT F.dH ?_ (F.dm _))))
 unfold kg.«reversed.__next__»;refine af (h8 rfl ?_);try dsimp only
 refine af (oS hit rfl rfl ?_);refine af (oS hit rfl rfl ?_);show dy _ _ (if(-1)<0 then _ else _) _ _ s;refine Z (if_pos (dd rfl)) ?_;refine af (wpAny_rule ?_);refine af ?_;refine af (kz hit rfl (by simp) ?_);have hit1:HM (s.heap.update H' (sh (·.setIfInBounds 1 (l8 (-1))))) H' t (-1):=f5 _ hit rfl;refine kz hit1 rfl (by simp) ?_;refine af ?_;show dy _ _ (newExc (.type "StopIteration") [] >>= _) _ _ _;refine af ?_;unfold newExc newTuple;refine af (gy ?_ (by size_fits));refine af (h8 (by first|rfl|(simp only[firstArgMember];rfl)) ?_);refine gy ?_ (by size_fits);unfold raiseNew;refine af (wpAny_handled ?_);first|refine Z (hh) ?_|rw[hh]
 refine af (aE (wpAny_throw ?_));refine af (nz ⟨_,cn _ rfl,rfl⟩ isSubtype_stop ?_);exact aE (hQ _ ((((dT ..).trans (dT ..)).extBut.push _).push _))
variable{X:Cx}{d:Nat}{H:U}{own:Bool}{env:Env}{m:List V}{pos p:Pos}{Q:List Addr->Addr->(Nat->Heap->Prop)->U->Prop}
def KS(l:Addr)(n:Nat)(H':Addr):Nat->Heap->Prop:=fun k h=>k<=n/\HM h H' l ((n:Int)-1-(k:Int))
theorem gj.mL{l:Addr}{M:List V}(hz:M.length<2^60):gj X d (fun H=>H l=some (.tup M)) M.reverse [H'] H' (KS l M.length H') where
 at_ k h hk a ha:=by
  obtain rfl:=Bb ha;exact⟨_,hk.2⟩
 keep k h h' hk q:=⟨hk.1,q H' (.head _) _ hk.2⟩
 cls k h hk:=⟨_,_,hk.2,rfl,dd rfl⟩
 item k x H A g s hx hok hA R hI hk:=by
  refine Ad (R.own _ _ hok) fun vs hl r=>?_;have hlt:k<M.length:=by
   have:=(av.mp hx).1;rwa [da]at this
  rw[sK hlt]at hx;refine Ad (r.get hx) fun v hv rv=>?_;have e:=rW hlt;have hk2:=hk.2;rw[e]at hk2;refine Fk hk2 (pB (ab (pc ..) (ab (pc ..) (dk hz)))) hl.isTup (by simpa using hv) fun h' tk hk' hs=>⟨v,h',tk,rfl,rv,rfl,fun b o hb e=>hs.extBut b o (fun z=>hb (z▸.head _)) e,by exact l4 hlt,?_⟩
  have e2:=ar1 hlt;rw[e2]at hk';exact hk'
 done H A g s hok hA R hI hk:=by
  have hk2:=hk.2;rw[da]at hk2;have e:(M.length)-1-(M.length:Int)=-1:=by exact sP.mpr rfl
  rw[e]at hk2;refine F5 hA.handled hk2 fun h' hs=>⟨rfl,h',s.toks,rfl,fun b o hb e=>hs b o (fun z=>hb (z▸.head _)) e⟩
theorem YN{x:Str}{e:Expr}(he:eB e=false)(hx:env.scope.names.lookup x=some uj)(hg:Ku X x (.typ "reversed"))(hd:(x==("__debug__":Str))=false)
  (h:ET X d H own env m (eval e env) VR fun a aaa=>∃l M,a=.ref l/\((aaa l=some (.list M)/\∀H',Q [H'] H' (Oc l M.length H') aaa)\/(aaa l=some (.tup M)/\M.length<2^60/\∀H',Q [H'] H' (KS l M.length H') aaa))):IT X d H own env m (eval (.Call (.Name x p) [e] [] pos) env) Q:=
 MD he hx hg hd (h.mono fun a aaa zqz=>AQ zqz fun l M ea e A g s v hA R S F rv=>by
  subst ea;obtain rfl:v=.ref l:=rv;rcases e with⟨e,q⟩|⟨e,hz,q⟩
  ·refine Ad (R.own _ _ e) fun vs hl r=>call_reversed_list hl.isList ?_;have hit:({s with heap:=s.heap.push (revObj l ((vs.toArray.size)-1))}).heap.IsRevIter s.heap.objs.size l ((M.length)-1-((0))):=⟨_,cn _ rfl,rfl,by
    show Data.fields _=_;refine Z bE (Z r.length ?_);simp⟩
   refine ua hit ⟨[s.heap.objs.size],s.heap.objs.size,Oc l M.length _,aaa,rfl,R.cQ _,F.push R _,fun a ha=>?_,⟨bq _,hit⟩,q _⟩;obtain rfl:=Bb ha;exact Hid.fresh R F _
  ·refine Ad (R.own _ _ e) fun vs hl r=>I9 hl.isTup (by refine Z bE (Z r.length ?_);lia) fun tk=>?_;have hit:HM (s.heap.push (mL l ((vs.toArray.size)-1))) s.heap.objs.size l ((M.length)-1-((0))):=by
    have:=cn s.heap (o:=mL l ((vs.toArray.size:Int)-1)) rfl;rw[bE,r.length]at this ⊢;exact Z (Int.sub_zero ((M.length)-1)) this
   refine DX hit ⟨[s.heap.objs.size],s.heap.objs.size,KS l M.length _,aaa,rfl,(R.cQ _).toks tk,F.push R _,fun a ha=>?_,⟨bq _,hit⟩,q _⟩;obtain rfl:=Bb ha;exact Hid.fresh R F _)
def cN(d:Nat->V->U->List V->Option (List V))(ok:U->Prop)(a:U->List V->(Bool->U->Prop)->Prop)(e:U->List V->(V->U->Prop)->Prop)(Q:List V->U->Prop):
  Nat->List V->List V->U->List V->Prop
 |_,acc,[],H,_=>ok H/\Q acc H
 |k,acc,x::M,H,m=>ok H/\∃m',d k x H m=some m'/\a H m' fun b c=>if b then e c m' fun y f=>cN d ok a e Q (k+1) (acc++[y]) M f m' else cN d ok a e Q (k+1) acc M c m'
def iz(X:Cx)(d:Nat)(own:Bool)(env:Env)(a:List Expr)(H:U)(m:List V)(Q:Bool->U->Prop):Prop:=match a with
 |[]=>Q true H
 |[c]=>ET X d H own env m (isTrue c env (eval c env)) Eq Q
 |_=>False
noncomputable abbrev Oq(ifs:List Expr)(env:Env):Sem Bool:=forIn ifs true fun c r=>if r=true then do let ok <-isTrue c env (eval c env);pure (l7 ok)else pure (l7 r)
theorem iz.et{a:List Expr}{Q:Bool->U->Prop}(h:iz X d own env a H m Q):ET X d H own env m (Oq a env) Eq Q:=fun A g s b R S F=>by
 cases a with
 |nil=>exact wpAny_tests_nil ⟨true,H,rfl,R,F,h⟩|cons c e=>cases e with
  |nil=>exact wpAny_tests_one (h A g s b R S F)|cons _ _=>exact h.elim
theorem QO{g:Heap}(R:RH X g s H)(S:FS own g env)(F:FD own s.heap H env m)(P:Addr->Prop)(i:∀a,P a->Hid own env g s.heap H a):∃g',RH X g' s H/\FS own g' env/\(∀b o,g.get? b=some o->g'.get? b=some o) /\
  (∀a o,Hid own env g s.heap H a->¬P a->s.heap.get? a=some o->g'.get? a=some o)/\(∀a,P a->Hid own env g' s.heap H a) /\
  (∀a c d,RH X g' c d->Hid own env g s.heap H a->¬P a->(∃o,s.heap.get? a=some o)->Hid own env g c.heap d a)/\(∀a (c:cE) d,P a->Hid own env g' c.heap d a->Hid own env g c.heap d a):=by
 obtain⟨p,k⟩:=R.grow (fun a=>mW own env a\/P a) fun a q=>by
  rcases q with q|q
  ·exact S.jc q
  ·exact(i a q).new
 have f:∀a o,Hid own env g s.heap H a->¬P a->s.heap.get? a=some o->(EF s.heap fun a=>AY s.heap H a\/(mW own env a\/P a)).get? a=some o:=fun a o h j e=>by
  rw[C6]
  ·exact e
  ·rintro(q|q|q)
   ·exact h.free q
   ·exact h.jc q
   ·exact j q
 refine⟨_,p,S.grow k fun a q=>EL (.inr (.inl q)),k,f,fun a q=>⟨(i a q).free,EL (.inr (.inr q)),(i a q).jc⟩,fun a c d l h j n=>AA n fun o e=>⟨fun q=>?_,h.new,h.jc⟩,fun a c d q h=>⟨h.free,(i a q).new,h.jc⟩⟩;have:=f a o h j e;rw[l.new a q]at this;cases this
inductive QX(X:Cx)(own:Bool)(env:Env)(g:Heap)(D:Addr)(Q:List V->U->Prop)(r:Result)(s:cE):Prop where
 |mk (f:Flow) (ys:List V) (H:U) (m:List V) (vs:List bm):r=.ok f->RH X g s H->FD own s.heap H env m->Hid own env g s.heap H D->s.heap.PlainList D vs.toArray->cj vs ys->Q ys H->QX X own env g D Q r s
end
section
variable{X:Cx}{d:Nat}{H:U}{own:Bool}{env:Env}{m:List V}{pos p:Pos}
inductive VW(X:Cx)(d:Nat)(own:Bool)(env:Env)(g:Heap)(priv:List Addr)(D:Addr)(Itr:Nat->Heap->Prop)(items:List V)(C:Nat->List V->List V->U->List V->Prop)(n:Nat)(s:cE):Prop where
 |mk (k:Nat) (acc M:List V) (H:U) (m:List V) (vs:List bm):items.drop k=M->RH X g s H->FD own s.heap H env m->(∀a∈priv,Hid own env g s.heap H a)->Itr k s.heap->Hid own env g s.heap H D ->
   s.heap.PlainList D vs.toArray->cj vs acc->acc.length<=k->C k acc M H m->k<=items.length->n=items.length-k->VW X d own env g priv D Itr items C n s
variable{target iter:Expr}{ifs:List Expr}{scope:Scope}{bnd:Nat->V->U->List V->Option (List V)}{H':Addr}{g:Heap}
theorem Uu{elt:Expr}{ok:U->Prop}{items:List V}{priv:List Addr}{D:Addr}{Itr:Nat->Heap->Prop}{Q:List V->U->Prop}
  (W:lz X d own env target bnd ok items priv H' Itr) (hz:items.length<=aT) (hDp:D∉priv)
  {A:iL} {s:cE} (hA:iw d A) (R:RH X g s H) (S:FS own g env) (F:FD own s.heap H env m) (hI:∀a∈priv,Hid own env g s.heap H a) (h0:Itr 0 s.heap) (hD:Hid own env g s.heap H D) (hl:s.heap.PlainList D #[])
  (h:cN bnd ok (iz X d own env ifs) (fun H m Q=>ET X d H own env m (eval elt env) VR Q) Q 0 [] items H m) :
  mB (eA X.prog X.w) A (.compLoop (.ListComp elt [⟨target,iter,ifs,0⟩] scope pos) 0 (.ref H') (.ref D) env) (QX X own env g D Q) s:=by
 refine codeAny_loop rfl (VW X d own env g priv D Itr items (cN bnd ok (iz X d own env ifs) (fun H m Q=>ET X d H own env m (eval elt env) VR Q) Q))
  (fun n s'=>?_) items.length ⟨0,[],items,H,m,[],rfl,R,F,hI,h0,hD,hl,trivial,ai _,h,bq _,rfl⟩
 rintro⟨k,acc,M,I,m',vs,hx,R',F',hI',hk,hD',hl',rv,hacc,hf,hle,rfl⟩;refine wpAny_noted (Z (compTurn_list ..) (af (js (af ?_))));refine Ir (QO R' S F' (·∈priv) hI') fun aay aak aaM kk1 zr=>Bt zr fun aaZ hid1 aaP back1=>?_;obtain⟨nD,eD⟩:=hl';have eD1:=aaZ _ _ hD' hDp eD;cases M with
 |nil=>
  obtain rfl:=WB hx hle;obtain⟨hok,q⟩:=hf;refine db (W.done I m' A aay s' hok hA aak aaM F' hid1 hk) (fun r aae zqz=>Bt zqz fun e aag aal w=>?_) fun w w x=>x.elim;subst e;exact aE ⟨.next,acc,I,m',vs,rfl,aag.weaken R.good kk1,aal,aaP _ _ _ aag hD' hDp ⟨_,eD⟩,⟨nD,aag.keep _ _ eD1⟩,rv,q⟩
 |cons x M=>
  refine Di (Sm hx) fun hlt hix hxs=>Cr (hf) fun hok aaz hb hbody=>db (W.item k x I m' aaz A aay s' hix hok hb hA aak aaM F' hid1 hk) (fun r aac zqz=>Ad zqz fun v e hv=>?_) fun w w x=>x.elim;subst e;dsimp only;have follow:∀aae:cE,RH X aay aae I->FD own aae.heap I env aaz->(∀a∈priv,Hid own env aay aae.heap I a)->Itr (k+1) aae.heap ->
    dy (eA X.prog X.w) A (Oq ifs env >>= fun okk=>(do
     if okk=true then
      (do let _ <-call (.builtin "list.append") [.ref D,<-eval elt env])
     again (.compLoop (.ListComp elt [⟨target,iter,ifs,0⟩] scope pos) 0 (.ref H') (.ref D) env):Sem Fin)) (fun fin s'=>match fin with
      |.done f=>QX X own env g D Q (.ok f) s'
      |.again c'=>c'=.compLoop (.ListComp elt [⟨target,iter,ifs,0⟩] scope pos) 0 (.ref H') (.ref D) env/\∃m,m<items.length-k/\VW X d own env g priv D Itr items (cN bnd ok (iz X d own env ifs) (fun H m Q=>ET X d H own env m (eval elt env) VR Q) Q) m s') (fun w w=>False) aae:=by
   intro aae aag aal hI2 aar;have aa1:=aag.weaken R.good kk1;have aaA:=fun a ha=>back1 a _ _ ha (hI2 a ha);have aaH:=aaP _ _ _ aag hD' hDp ⟨_,eD⟩;have eD2:=aag.keep _ _ eD1;refine BU (C7 aa1 S aal) fun abb aau aaQ kk2 in2 aaB=>?_;have eD3:=in2 _ _ aaH eD2;refine af (hbody.et.use hA aau aaQ aal (fun okk aav b aaf eb aas aaS hb=>?_));subst eb;cases okk with
   |false=>
    refine Z (if_neg ax) ?_;refine aE ⟨rfl,items.length-(k+1),by exact oq items.length k hlt,k+1,acc,M,aaf,aaz,vs,hxs,aas.weaken R.good kk2,aaS,fun a ha=>aaB _ _ _ aas (aaA a ha) (W.at_ _ _ aar a ha),W.keep _ _ _ aar (fun a ha o e=>aas.keep _ _ (in2 _ _ (aaA a ha) e)),
     aaB _ _ _ aas aaH ⟨_,eD2⟩,⟨nD,aas.keep _ _ eD3⟩,rv,by exact hW hacc,?_,hlt,rfl⟩
    simpa using hb
   |true=>
    refine Z (if_pos rfl) ?_;simp only[if_true]at hb;refine af (af (hb.use hA aas aaQ aaS (fun y aah a aan ra aaw aaF hq=>af ?_)));have eD5:=aaw.keep _ _ eD3;have hD5:=aaB _ _ _ aaw aaH ⟨_,eD2⟩;have aaC:=aaw.weaken R.good kk2;have hI5:=fun a ha=>aaB _ _ _ aaw (aaA a ha) (W.at_ _ _ aar a ha);have hk5:=W.keep _ _ _ aar (fun a ha o e=>aaw.keep _ _ (in2 _ _ (aaA a ha) e));refine tA ⟨nD,eD5⟩ (fun h' hl' hs=>aE (aE ?_)) (Z bE (Z rv.length (ab hacc (ab (dk hlt) hz))));refine⟨rfl,items.length-(k+1),by exact oq items.length k hlt,k+1,acc++[a],M,aan,aaz,vs++[y],hxs,aaC.touch hD5.free hD5.new hs,aaF.touch S aaC hD5 hs,fun a ha=>(hI5 a ha).touch aaC hD5.free hs,
     W.keep _ _ _ hk5 (fun a ha o e=>(hs.2 a (fun z=>hDp (z▸ha))).trans e),hD5.touch aaC hD5.free hs,by simpa using hl',rv.app ⟨ra,trivial⟩,by simp;exact String.Pos.Raw.mk_le_mk.mp hacc,hq,hlt,rfl⟩
  have hv'':=af (f:=fun(w:Unit)=>(Oq ifs env >>= fun okk=>(do
     if okk=true then
      (do let _ <-call (.builtin "list.append") [.ref D,<-eval elt env])
     again (.compLoop (.ListComp elt [⟨target,iter,ifs,0⟩] scope pos) 0 (.ref H') (.ref D) env):Sem Fin))) (db hv (fun w aae zqz=>Bt zqz fun aag aal hI2 aar=>follow aae aag aal hI2 aar) fun w w x=>x)
  rw[bind_assoc]at hv'';exact db hv'' (fun w w x=>x) fun w w x=>x.elim
theorem RE :∀(l:List (Str×ce)) (acc:List (Str×Addr)),(∀x,(x,eW)∈l->∃c,env.cells.lookup x=some c)->(l.map (·.1)).Nodup ->
  ∃cl,(forIn l acc fun x cs=>(do
   let(name,kind):=x
   if(kind==eW)=true then do
    let a <-cellOf env name
    pure (l7 ((name,a)::cs))
   else pure (l7 cs):Sem _))=pure cl/\(∀x,(x,eW)∈l->cl.lookup x=env.cells.lookup x)/\∀x,x∉l.map (·.1)->cl.lookup x=acc.lookup x:=by
 intro z0;induction z0 with
 |nil=>
  intro acc _ _;exact⟨acc,rfl,(fun z h=>nomatch h),fun z z=>rfl⟩
 |cons zq r ih=>
  intro acc h hn;obtain⟨n,k⟩:=zq;rw[dr,cr]at hn;by_cases hk:k=eW
  ·subst hk;refine AA (h n (.head _)) fun c hc=>Az (ih ((n,c)::acc) (fun x hx=>h x (.tail _ hx)) hn.2) fun cl e h1 h2=>⟨cl,?_,fun x hx=>?_,fun x hx=>?_⟩
   ·refine Z (qA ..) ?_;have:cellOf env n=pure c:=by unfold cellOf;exact Z hc rfl
    show((if(eW==eW)=true then _ else _) >>= _)=_;exact Z (if_pos (dd rfl)) (Z this e)
   ·rcases bg.mp hx with hx|hx
    ·cases hx;exact Z (h2 n hn.1) (Z e9 (Z (beq_self_eq_true ..) (Z hc rfl)))
    ·exact h1 x hx
   ·rw[dr,bg,not_or]at hx;exact Z (h2 x hx.2) (Z e9 (Z (beq_false_of_ne hx.1) rfl))
  ·refine Az (ih acc (fun x hx=>h x (.tail _ hx)) hn.2) fun cl e h1 h2=>⟨cl,?_,fun x hx=>?_,fun x hx=>?_⟩
   ·refine Z (qA ..) ?_;have:=beq_false_of_ne hk;show((if(k==eW)=true then _ else _) >>= _)=_;exact Z this (Z (if_neg ax) e)
   ·rcases bg.mp hx with hx|hx
    ·cases hx;exact absurd rfl hk
    ·exact h1 x hx
   ·rw[dr,bg,not_or]at hx;exact h2 x hx.2
theorem lU(h:∀x,(x,eW)∈scope.names->∃c,env.cells.lookup x=some c)(hn:(scope.names.map (·.1)).Nodup):
  ∃cl,closureFor scope env=pure cl/\∀x,(x,eW)∈scope.names->cl.lookup x=env.cells.lookup x:=by
 refine Az (RE scope.names [] h hn) fun cl e h1 z=>⟨cl,?_,h1⟩
 unfold closureFor;exact Z (bind_pure ..) e
noncomputable def Dz(a:Scope)(env:Env):List (Str×ce):=a.names.map fun(n,k)=>if(k==.free&&env.scope.kind==.function&&env.kindOf n==some .cell)then(n,.cell)else(n,k)
theorem CO{a:Scope}:(oj a env).names=Dz a env:=rfl
noncomputable def Zx(names:List (Str×ce))(m:List V)(x:Str×ce):V:=match x.2 with
 |.free=>m.getD (names.findIdx fun y=>y.1==x.1) .aa
 |_=>.aa
def Pf(a:Scope)(names:List (Str×ce))(m:List V):List V:=a.names.map (Zx names m)
structure eY(scope:Scope)(names:List (Str×ce)):Prop where
 kind:scope.kind=.function
 nodup:(scope.names.map (·.1)).Nodup
 lO:∀x∈scope.names,x.2≠.cell
 loc:∀x∈scope.names,x.2=.local->scope.names.lookup x.1=some uk
 cap:∀x,(x,eW)∈scope.names->∃k,names[names.findIdx fun y=>y.1==x]?=some (x,k)/\(k=.cell\/k=.free)
def JS(X:Cx)(H':Addr)(a:Nat->Heap->Prop):Prop:=∀A E Q s,a 0 s.heap->Q (.ref H') s->dy (eA X.prog X.w) A (pyIter (.ref H')) Q E s
variable{l:Addr}
theorem QI :JS X H' (K0 l H'):=fun A E Q s a q=>wpAny_pyIter_listiter a q
theorem Oj{n:Nat}:JS X H' (Jg n H'):=fun A E Q s a q=>wpAny_pyIter_rangeiter a.2 q
variable{x:Str}
set_option tactic.hygienic true in
theorem QB{a:Scope}{k:ce}(h:(x,k)∈(oj a env).names):(x,k)∈a.names\/(k=.cell/\(x,eW)∈a.names):=by
 rw[CO]at h;unfold Dz at h;obtain⟨⟨n,e⟩,c,b⟩:=bn.mp h;dsimp only at b;split at b
 ·rename_i d;cases b;simp only[be,beq_iff_eq]at d;rw[d.1.1]at c;exact .inr ⟨rfl,c⟩
 ·cases b;exact .inl c
theorem Qu{a:Scope}:(oj a env).names.map (·.1)=a.names.map (·.1):=by
 refine Z CO ?_;unfold Dz;refine Z f8 (fz fun x b=>?_);obtain⟨n,k⟩:=x;show(if _ then((n,hJ))else(n,k)).1=n;split<;>rfl
variable{i:Nat}
set_option tactic.hygienic true in
theorem Ke{a:Scope}{k:ce}(h:(oj a env).names[i]?=some (x,k)):∃b,a.names[i]?=some (x,b)/\(b=k\/(k=.cell/\b=.free)):=by
 rw[CO]at h;unfold Dz at h;rw[b9]at h;cases e:a.names[i]? with
 |none=>rw[e]at h;cases h
 |some y=>
  obtain⟨n,b⟩:=y;rw[e]at h;simp only[gv,Option.some.injEq]at h;split at h
  ·rename_i c;cases h;simp only[be,beq_iff_eq]at c;exact⟨b,rfl,.inr ⟨rfl,c.1.1⟩⟩
  ·cases h;exact⟨_,rfl,.inl rfl⟩
def K8(X:Cx)(d:Nat)(env:Env)(m:List V)(j e:Expr)(k:List Expr)(c:Scope)(Q:List V->U->Prop)(f:List Addr)(H':Addr)(g:Nat->Heap->Prop)(h:U):Prop:=
 ∃i ok b,gj X d ok b f H' g/\JS X H' g/\b.length<=aT/\∀a:Env,a.scope=oj c env->Pl X d false a e i /\
  cN i ok (iz X d false a k) (fun H m Q=>ET X d H false a m (eval j a) VR Q) Q 0 [] b h (Pf c env.scope.names m)
theorem Li{elt:Expr}{cl:List (Str×Addr)}{Q:List V->U->Prop}(Ab:eY scope env.scope.names)
  (hcl:∀x,(x,eW)∈scope.names->cl.lookup x=env.cells.lookup x)
  {A:iL} {s:cE} {priv:List Addr} {Itr:Nat->Heap->Prop} (hA:iw d A) (R:RH X g s H) (S:FS own g env) (F:FD own s.heap H env m) (hI:∀a∈priv,Hid own env g s.heap H a) (h0:Itr 0 s.heap)
  (h:K8 X d env m elt target ifs scope Q priv H' Itr H) {RR:bm->Addr->Result->cE->Prop}
  (hRR:∀D C s' ys I mC f,I D=none->RH X g s' (I.set D (.list ys))->FD own s'.heap (I.set D (.list ys)) env m->Hid own env g s'.heap (I.set D (.list ys)) C->s'.heap.Ns C mC->Q ys I->RR (.ref D) C (.ok f) s') :
  dy (eA X.prog X.w) A (newList []) (fun acc aav=>dy (eA X.prog X.w) A (newFunctionEnv scope env.globals cl [] env.qual none .none (some env)) (fun cenv aah=>
   mB (eA X.prog X.w) A (.compStart (.ListComp elt [⟨target,iter,ifs,0⟩] scope pos) 0 (.ref H') acc {cenv with scope:=oj scope env}) (RR acc cenv.locals) aah) (fun w w=>False) aav) (fun w w=>False) s:=by
 refine B6 (h) fun bnd ok items W self hz h=>gy (wpAny_newFunctionEnv Ab.lO (by intro y hy;simp at hy) (fun aad hns1 aaD=>?_) Ab.kind);dsimp only at hns1 aaD ⊢;generalize hH2:s.heap.push {cls:=.type "list",dict:=none,data:=.seq ([]:List bm).toArray}=H2 at hns1 aaD ⊢;have hC:H2.objs.size=s.heap.objs.size+1:=by exact Z (ap hH2) (Z (oa ..) rfl)
 have hDC:s.heap.objs.size≠H2.objs.size:=Z hC (dL (eK _));have ow:∀b,b<s.heap.objs.size->b≠H2.objs.size:=fun b hb=>by refine Z hC ?_;exact dL (kt hb)
 have ext:∀b o,s.heap.get? b=some o->aad.get? b=some o:=fun b o e=>aaD.extBut b o (ow b (dt e)) (bt _ (hH2▸bt _ e));have hacc:aad.PlainList s.heap.objs.size #[]:=⟨_,aaD.extBut _ _ hDC (bt _ (hH2▸cn _ rfl))⟩
 generalize hDg:s.heap.objs.size=D at *;generalize hCg:H2.objs.size=C at *;have R1:RH X g {s with heap:=aad,toks:=s.toks+([]:List (Str×bm)).length} H:=R.extend ext;have F1:FD own aad H env m:=F.moved (fun q=>F.km (R.bJ ext q)) (fun o e=>ext _ _ e) (fun ho x c hx hc q=>F.lG ho x c hx hc (R.bJ ext q)) fun x c kd o hx hk hc e=>ext _ _ e;have hid:∀a,D<=a->Hid own env g aad H a:=fun a ha=>⟨fun q=>dQ _ (bv (hDg▸R.fj (R.bJ ext q)) ha),by
   cases e:g.get? a with
   |none=>rfl|some o=>exact absurd (dt (R.keep _ _ e)) (i3.mpr (hDg▸ha)),fun q=>dQ _ (bv (hDg▸F.lV q) ha)⟩
 have hidD:=hid D (ai _);have hidC:=hid C (Z hC (ip _));have hidP:∀a∈priv,Hid own env g aad H a:=fun a ha=>⟨fun q=>(hI a ha).free (R.bJ ext q),(hI a ha).new,(hI a ha).jc⟩
 have lowP:∀a∈priv,a<D:=fun a ha=>by
  exact AA (W.at_ _ _ h0 a ha) fun o e=>hDg▸dt e
 refine AA (⟨_,rfl⟩:∃aah:cE,aah={s with heap:=aad,toks:=s.toks+([]:List (Str×bm)).length}) fun aah es4=>?_;have eh4:aah.heap=aad:=by exact Z es4 rfl
 obtain⟨R2,kk⟩:=RH.grow (s:=aah) (H:=H) (X:=X) (g:=g) (Z es4 R1) (fun a=>a=C\/a=D\/a∈priv) fun a q=>by
  rcases q with rfl|rfl|q
  ·exact hidC.new
  ·exact hidD.new
  ·exact(hidP a q).new
 generalize hg':(EF aah.heap fun a=>AY aah.heap H a\/(a=C\/a=D\/a∈priv))=g' at R2 kk;have g'none:∀a,(a=C\/a=D\/a∈priv)->g'.get? a=none:=fun a q=>by refine Z (ap hg') ?_;exact EL (.inr q)
 have g'some:∀a o,¬AY aad H a->¬(a=C\/a=D\/a∈priv)->aad.get? a=some o->g'.get? a=some o:=fun a o h1 h2 e=>by
  refine Z (ap hg') ?_;rewrite[C6];refine Z eh4 ?_
  ·exact e
  ·refine Z eh4 ?_;rintro(q|q)
   ·exact h1 q
   ·exact h2 q
 have notSp:∀a,mW own env a->¬(a=C\/a=D\/a∈priv):=fun a q z=>by
  rcases z with rfl|rfl|z
  ·exact hidC.jc q
  ·exact hidD.jc q
  ·exact(hidP a z).jc q
 have cellAt:∀x,(x,eW)∈scope.names->∃c vo o,env.cells.lookup x=some c/\aad.IsCell c vo/\g'.get? c=some o/\AR vo (m.getD (env.scope.names.findIdx fun y=>y.1==x) .aa):=fun x hx=>by
  refine Ad (Ab.cap x hx) fun k hk hkk=>Ay (F1.cell _ x k hk hkk) fun c vo hc hcell ar=>Ad (id hcell) fun o ho w=>⟨c,vo,o,hc,hcell,?_,ar⟩
  by_cases hq:k=.cell/\own=true
  ·exact g'some c o (F1.lG hq.2 x c (hq.1▸ay hk) hc) (notSp c (.inr ⟨hq.2,x,hq.1▸ay hk,hc⟩)) ho
  ·have hzz:k=.free\/(k=.cell/\own=false):=by
    rcases hkk with hk|hk
    ·refine .inr ⟨hk,?_⟩;cases hw:own with
     |false=>rfl|true=>exact absurd ⟨hk,hw⟩ hq
    ·exact .inl hk
   refine AQ (S.cellIn x k (ay hk) hzz) fun c' o' hc' e'=>?_;obtain rfl:c'=c:=ag (hc'.symm.trans hc);have e1:=R1.keep _ _ e';rw[show({s with heap:=aad,toks:=s.toks+([]:List (Str×bm)).length}:cE).heap=aad from rfl,ho]at e1;cases e1;exact kk _ _ e'
 have SC:FS false g' (nI scope cl C env):={
  gl:=S.gl
  bi:=S.bi
  kind:=Ab.kind
  nodup:=by
   show((oj scope env).names.map (·.1)).Nodup;exact Z Qu Ab.nodup
  oh:=g'none C (.inl rfl)
  iC:=fun z=>nomatch z
  apart:=fun z=>nomatch z
  cellIn:=fun x k hx hk=>by
   have hfree:(x,eW)∈scope.names:=by
    rcases QB hx with q|⟨_,q⟩
    ·rcases hk with rfl|⟨rfl,_⟩
     ·exact q
     ·exact absurd rfl (Ab.lO _ q)
    ·exact q
   refine B6 (cellAt x hfree) fun c vo o hc w hg w=>?_;exact⟨c,o,(hcl x hfree).trans hc,hg⟩}
 have mget:∀i x k,scope.names[i]?=some (x,k)->(Pf scope env.scope.names m).getD i .aa=Zx env.scope.names m (x,k):=fun i x k hi=>by
  unfold Pf;refine Z (eJ) (Z (b9) (Z hi ?_));rfl
 have FC:FD false aah.heap H (nI scope cl C env) (Pf scope env.scope.names m):=by
  refine Z eh4 ?_;exact{
   km:=hidC.free
   lG:=fun z=>nomatch z
   len:=by
    show(Pf scope env.scope.names m).length=(oj scope env).names.length;refine Z CO ?_;unfold Pf Dz;exact Z (ac ..) (Z (ac ..) rfl)
   ns:=⟨_,hns1,fun i x hi=>by
    refine Ad (Ke hi) fun k' hk' q=>?_;have:k'=.local:=by rcases q with q|⟨q,_⟩;exact q;cases q
    subst this;refine Z (mget i x _ hk') ?_;exact fun z=>absurd rfl z⟩
   cell:=fun i x k hi hk=>by
    refine Ad (Ke hi) fun k' hk' q=>?_;have hfree:k'=.free:=by
     rcases q with q|⟨_,q⟩
     ·rcases hk with rfl|rfl
      ·subst q;exact absurd rfl (Ab.lO _ (ay hk'))
      ·exact q
     ·exact q
    subst hfree;refine B6 (cellAt x (ay hk')) fun c vo o hc hcell w ar=>Z (mget i x _ hk') ?_;exact⟨c,vo,(hcl x (ay hk')).trans hc,hcell,ar⟩}
 have prvC:∀a,mW false (nI scope cl C env) a->a=C:=fun a q=>by
  rcases q with q|⟨q,_⟩
  ·exact q
  ·cases q
 have hidD2:Hid false (nI scope cl C env) g' aah.heap H D:=⟨by refine Z eh4 ?_;exact hidD.free,g'none D (.inr (.inl rfl)),fun q=>hDC (prvC _ q)⟩
 have hidP2:∀a∈priv,Hid false (nI scope cl C env) g' aah.heap H a:=fun a ha=>⟨by refine Z eh4 ?_;exact(hidP a ha).free,g'none a (.inr (.inr ha)),fun q=>by
  have:=prvC _ q;have h2:=lowP a ha;rw[this,hC]at h2;exact i3.mpr (ip _) h2⟩
 have hIt1:Itr 0 aah.heap:=W.keep _ _ _ h0 fun a ha o e=>by refine Z eh4 ?_;exact ext a o e
 refine aV (h (nI scope cl C env) rfl) fun T hcomp=>?_;have loop:mB (eA X.prog X.w) A (.compLoop (.ListComp elt [⟨target,iter,ifs,0⟩] scope pos) 0 (.ref H') (.ref D) (nI scope cl C env)) (RR (.ref D) C) aah:=by
  refine iA (Uu (W.iter T) hz (fun q=>dQ _ (lowP D q)) hA R2 SC FC hidP2 hIt1 hidD2 (Z eh4 hacc) hcomp) fun r s' zqz=>zqz.casesOn fun f ys I m' vs er R' F' hD' hl rv q=>?_;subst er;have hHD:I D=none:=by
   cases e:I D with
   |none=>rfl|some o=>exact absurd (.inl (Z e (fun q=>nomatch q))) hD'.free
  have RB:=R'.weaken R.good kk;have RA:RH X g {s' with heap:=s'.heap,toks:=s'.toks} (I.set D (.list ys)):=RB.adopt (ao:=.list ys) (t:=s'.toks) hD'.free hidD.new (ke ..) rfl ⟨vs,hl,rv⟩;refine Ad F'.ns fun mC hnsC w=>?_;have un:∀a o,¬AY aad H a->¬(a=C\/a=D\/a∈priv)->aad.get? a=some o->¬AY s'.heap I a:=fun a o h1 h2 e z=>by
   have:=g'some a o h1 h2 e;rw[R'.new a z]at this;cases this
  obtain⟨mc,⟨oL,es,ep,eL,rLo⟩,_⟩:=F1.ns;have FB:FD own s'.heap I env m:=F1.moved (un _ _ F1.km (notSp _ (.inl rfl)) eL) (fun o e=>R'.keep _ _ (g'some _ _ F1.km (notSp _ (.inl rfl)) e)) (fun ho x c hx hc=>by
    refine AA (d6 hx) fun i hi=>Ay (F1.cell i x .cell hi (.inl rfl)) fun c' vo hc' zq3 w=>Ad zq3 fun o e w=>?_;obtain rfl:c'=c:=ag (hc'.symm.trans hc);exact un c' o (F1.lG ho x c' hx hc) (notSp _ (.inr ⟨ho,x,hx,hc⟩)) e) fun x c kd o hx hk hc e=>by
   by_cases hq:kd=.cell/\own=true
   ·exact R'.keep _ _ (g'some c o (F1.lG hq.2 x c (hq.1▸hx) hc) (notSp _ (.inr ⟨hq.2,x,hq.1▸hx,hc⟩)) e)
   ·have hzz:kd=.free\/(kd=.cell/\own=false):=by
     rcases hk with hk|hk
     ·refine .inr ⟨hk,?_⟩;cases hw:own with
      |false=>rfl|true=>exact absurd ⟨hk,hw⟩ hq
     ·exact .inl hk
    refine AQ (S.cellIn x kd hx hzz) fun c' o' hc' e'=>?_;obtain rfl:c'=c:=ag (hc'.symm.trans hc);have e1:=R1.keep _ _ e';rw[show({s with heap:=aad,toks:=s.toks+([]:List (Str×bm)).length}:cE).heap=aad from rfl,e]at e1;cases e1;exact RB.keep _ _ e'
  refine hRR D C s' ys I mC f hHD RA (FB.adopt hidD.jc rfl) ⟨fun z=>F'.km ?_,hidC.new,hidC.jc⟩ hnsC q;rcases z with z|⟨y,D',k,q,z⟩
  ·rw[U.aC _ _ (kl hDC)]at z;exact .inl z
  ·by_cases hy:y=D
   ·rw[hy,U.ak]at q;cases q
   ·rw[U.aC _ _ hy]at q;exact .inr ⟨y,D',k,q,z⟩
 have key:mB (eA X.prog X.w) A (.compStart (.ListComp elt [⟨target,iter,ifs,0⟩] scope pos) 0 (.ref H') (.ref D) (nI scope cl C env)) (RR (.ref D) C) aah:=
  codeAny_compStart_list loop (self _ _ _ _ hIt1 loop)
 rw[es4]at key;exact key
theorem FD.closure{a:Scope}{h:Heap}(Ab:eY a env.scope.names)(F:FD own h H env m):∃d,closureFor a env=pure d/\∀x,(x,eW)∈a.names->d.lookup x=env.cells.lookup x:=
 lU (fun x e=>by
  refine Ad (Ab.cap x e) fun k f b=>AQ (F.cell _ x k f b) fun c i g z=>?_;exact⟨c,g⟩) Ab.nodup
variable{c:Expr}{Q:V->U->Prop}
theorem o5{j b:Expr}{k:List Expr}{a:Scope}(Ab:eY a env.scope.names)(p:∀x,d3 c env x=pure x)
  (h:IT X d H own env m (eval c env) (K8 X d env m j b k a fun ys i=>∀r,i r=none->Q (.ref r) (i.set r (.list ys)))) :
  ET X d H own env m (eval (.ListComp j [⟨b,c,k,0⟩] a pos) env) VR Q:=fun A g s w R S F=>by
 refine Ad (F.closure Ab) fun cl t ad=>Z (eval_ListComp ..) (tg rfl p t Ab.kind Ab.loc (db (h A g s w R S F) (fun W y l=>db l (fun it z u=>u.casesOn fun B H' K E e n o L xs q=>?_) fun Y Y e=>e) fun Y Y e=>e));subst e;refine Li Ab ad w n S o L xs q ?_;intro D C ws ys I N f P G T v AH aj;exact⟨N,AH,fun h' p=>⟨.ref D,_,rfl,G.touch v.free v.new p,T.touch S G v p,aj D P⟩⟩
theorem jV{y:Str}{py:Pos}{elt:Expr}{cpos:Pos}{Q:bu->U->List V->Prop}(hi:env.scope.names[i]?=some (y,uk))(Ab:eY scope env.scope.names)(hs:∀x,d3 iter env x=pure x)
  (hsw:env.scope.kind=.function->env.kindOf y=some uk->swapsWith (.ListComp elt [⟨target,iter,ifs,0⟩] scope cpos) (some (.Name y py)) pos.line env=pure true)
  (h:IT X d H own env m (eval iter env) (K8 X d env m elt target ifs scope fun ys aab=>∀r,aab r=none->Q .next (aab.set r (.list ys)) (m.set i (.ref r)))) :
  ST X d H own env m (exec (.Assign [.Name y py] (.ListComp elt [⟨target,iter,ifs,0⟩] scope cpos) pos) env) iY Q:=fun A g s hA R S F=>by
 refine Ad (F.closure Ab) fun cl hcl hl=>Z (exec_Assign_Name_used _ _ _ _ (hsw S.kind (S.kindOf hi))) (af (js (af ?_)));show dy _ A (do let _ <-comprehension (.ListComp elt [⟨target,iter,ifs,0⟩] scope cpos) scope env _ (newList []) false (eval iter env) (some (o1 (.Name y py) env))) _ _ s;refine af (db (tg (use:=some (o1 (.Name y py) env)) (E:=fun z z=>False) (Q:=fun z s'=>∃I m',RH X g s' I/\FD own s'.heap I env m'/\Q .next I m') rfl hs hcl Ab.kind Ab.loc
  (db (h A g s hA R S F) (fun xv aac aad=>db aad (fun it aae zqz=>zqz.casesOn fun priv H' Itr aaa e aak aam hI h0 q=>?_) fun z z e=>e) fun z z e=>e)) (fun z s' zqz=>Ay zqz fun I m' R' F' q=>aE (aE ⟨.next,I,m',trivial,R',F',q⟩)) fun z z e=>e)
 subst e;refine Li (RR:=fun acc C=>compPost (eA X.prog X.w) A _ (some (o1 (.Name y py) env)) _ acc C) Ab hl hA aak S aam hI h0 q ?_;intro D C s' ys I mC f hD RA FA hC hn hq;show dy _ A (o1 (.Name y py) env (.ref D)) _ _ _;refine BU (C7 RA S FA) fun g' R2 S2 kk hin hst=>?_;obtain⟨oC,eC⟩:∃o,s'.heap.get? C=some o:=let⟨o,_,_,e,_⟩:=hn;⟨o,e⟩;have e1:=hin _ _ hC eC;refine(Lf (X:=X) (d:=d) (a:=.ref D) (Q:=fun H'' m''=>H''=I.set D (.list ys)/\m''=m.set i (.ref D)) hi (.inl rfl) rfl ⟨rfl,rfl⟩).use hA R2 S2 FA (fun z aae z aab aaX z aag aal zqz=>aV zqz fun e1' e2'=>?_);subst e1' e2';have hC2:=hst _ _ _ aag hC ⟨_,eC⟩;have RB:=aag.weaken R.good kk;refine Cb (hn) fun o es ep eo hr=>?_;have hn2:aae.heap.Ns C mC:=⟨o,es,ep,by rw[eo]at eC;cases eC;exact aag.keep _ _ e1,hr⟩
 exact⟨mC,hn2,fun h' hs=>⟨_,_,RB.touch (t:=aae.toks) hC2.free hC2.new hs,aal.touch S RB hC2 hs,hq D hD⟩⟩
theorem RH.jg{s:cE}{a:Heap}{ao:bI}{t:Nat}(R:RH X g s H)(k:∀b o,s.heap.get? b=some o->a.get? b=some o)(c:IZ ao=true)(d:lw X a s.heap.objs.size ao):
  RH X g {s with heap:=a,toks:=t} (H.set s.heap.objs.size ao):=by
 have f:RH X g {s with heap:=a,toks:=t} H:=R.extend k;refine RH.adopt f (fun q=>dQ _ (R.fj (R.bJ k q))) ?_ (ke ..) c d;cases e:g.get? s.heap.objs.size with
 |none=>rfl|some o=>exact absurd (dt (R.keep _ _ e)) (dQ _)
variable{M:List V}
theorem Q0(e:H l=some (.list M))(b:M.length<=aT)(q:∀r,H r=none->Q (.ref r) (H.set r (.list M))):Calls X d H (.typ "list") [.ref l] Q:=fun o c f a=>by
 obtain rfl:=f;refine⟨trivial,fun A g s p R=>?_⟩
 match c,a with
 |[v],a=>
  obtain rfl:=a.1;obtain⟨h,⟨n,i⟩,r⟩:=R.own _ _ e;exact call_list_seq l (.inl rfl) i rfl rfl (fun t j k m=>⟨.ref s.heap.objs.size,_,rfl,R.jg (ao:=.list M) k rfl ⟨h,⟨j,m⟩,r⟩,q _ R.fresh⟩) (Z bE (Z r.length b))
 |[],a=>exact a.elim|_::_::_,a=>exact a.2.elim
theorem TO(e:H l=some (.list M))(b:M.length<=aT)(q:Q (.int M.length) H):Calls X d H (.blt "len") [.ref l] Q:=fun g c f a=>by
 obtain rfl:=f;refine⟨trivial,?_⟩
 match c,a with
 |[v],a=>exact QY e a.1 b q|[],a=>exact a.elim|_::_::_,a=>exact a.2.elim
theorem Tc{i:Int}(q:Q (.int (if i<0 then -i else i)) H):Calls X d H (.blt "abs") [.int i] Q:=fun h c e a=>by
 obtain rfl:=e;refine⟨trivial,fun A g s j R=>?_⟩
 match c,a with
 |[v],a=>
  refine AA a.1 fun t b=>?_;subst b;exact call_abs_int fun u f=>⟨.int (if i<0 then -i else i),H,⟨_,rfl⟩,R.toks f,q⟩
 |[],a=>exact a.elim|_::_::_,a=>exact a.2.elim
variable{vs:List bm}
theorem cj.bools{bs:List Bool}(r:cj vs (bs.map .bool)):vs=bs.map .bool:=by
 induction bs generalizing vs with
 |nil=>cases vs with|nil=>rfl|cons _ _=>exact r.elim
 |cons b bs a=>cases vs with
  |nil=>exact r.elim|cons v vs=>
   have c:=r.1;refine Z c (Z (a r.2) ?_);rfl
theorem TS{bs:List Bool}(e:H l=some (.list (bs.map .bool)))(q:Q (.bool (bs.any id)) H):Calls X d H (.blt "any") [.ref l] Q:=fun F z B c=>by
 obtain rfl:=B;refine⟨trivial,fun A g s C R=>?_⟩
 match z,c with
 |[v],c=>
  obtain rfl:=c.1;refine Ad (R.own _ _ e) fun u j r=>?_;have m:=cj.bools r;refine AA (R.there e) fun G n=>?_;have p:=dL (dt n);refine call_any_walk (qV j.isList ⟨s.heap.objs.size,_,_,_,_,_,(fun i=>(bs[i]?).getD false),rfl,Walks.list (A:=A.in1) C.handled _ l p u.toArray,⟨⟨_,cn _ rfl,rfl,rfl⟩,j.isList.push _⟩,?_,fun H' ad k=>?_⟩)
  ·intro i v s Q E D w;have f:(bs.map Value.bool)[i]?=some v:=by simpa[m]using D
   rw[b9]at f;cases a:bs[i]? with
   |none=>rw[a]at f;cases f
   |some b=>
    rw[a]at f;cases f;simp only[a,Option.getD_some]at w;exact j2 w
  ·have x:=fun b o y=>k b o (by simp only[al];exact dL (dt y)) (bt _ y);refine⟨.bool (bs.any id),H,?_,R.extend x,q⟩;have:(ej u.toArray.size).any (fun i=>(bs[i]?).getD false)=bs.any id:=by
    refine Z bE (Z m (Z (ac ..) ?_));clear q m r j k x;refine Z (propext Bool.eq_iff_iff) (Z (propext fe) (Z (propext fe) ?_));constructor
    ·rintro⟨i,t,h⟩;cases a:bs[i]? with
     |none=>rw[a]at h;cases h
     |some b=>rw[a]at h;exact⟨b,ay a,h⟩
    ·rintro⟨b,a,h⟩;exact AA (d6 a) fun i t=>⟨i,by refine Z (propext List.mem_range) ?_;exact(av.mp t).1,by refine Z t ?_;exact h⟩
   refine Z this ?_;rfl
 |[],c=>exact c.elim|_::_::_,c=>exact c.2.elim
theorem cj.perm{Y:List bm}(h:vs.Perm Y):∀{M:List V},cj Y M->∃ys,ys.Perm M/\cj vs ys:=by
 induction h with
 |nil=>exact fun r=>⟨_,p9 _,r⟩
 |cons x _ g=>
  intro M r;cases M with
  |nil=>exact r.elim|cons y M=>
   exact Ad (g r.2) fun ys p c=>⟨y::ys,p.cons y,r.1,c⟩
 |swap x y l=>
  intro M r;cases M with
  |nil=>exact r.elim|cons a M=>cases M with
   |nil=>exact r.2.elim|cons b M=>exact⟨b::a::M,List.Perm.swap ..,r.2.1,r.1,r.2.2⟩
 |trans _ _ d e=>
  intro M r;exact Ad (e r) fun ys p c=>Ad (d c) fun i j f=>⟨i,j.trans p,f⟩
theorem cj.refs{b:Type}{f:b->Addr}{l:List b}(r:cj vs (l.map fun x=>.ref (f x))):vs=l.map fun x=>.ref (f x):=by
 induction l generalizing vs with
 |nil=>cases vs with
  |nil=>rfl|cons _ _=>exact r.elim
 |cons a l c=>cases vs with
  |nil=>exact r.elim|cons v vs=>
   have d:=r.1;refine Z d (Z (c r.2) ?_);rfl
theorem cj.jF{a:Type}(f:a->Addr):∀l:List a,cj (l.map fun x=>.ref (f x)) (l.map fun x=>.ref (f x)):=by
 intro b;induction b with
 |nil=>
  exact trivial
 |cons _ l c=>
  exact⟨rfl,c⟩
theorem Y3{s:cE}(R:RH X g s H){p:Addr}{x:Nat×Nat}(e:H p=some (.tup [.int x.1,.int x.2])):cH s.heap p x:=by
 obtain⟨b,⟨n,c⟩,r⟩:=R.own _ _ e
 match b,r with
 |[v,u],r=>
  refine AA r.1 fun d a=>?_;subst a;refine AA r.2.1 fun f a=>?_;subst a;exact⟨_,d,f,n,c,rfl,rfl⟩
 |[],r=>exact r.elim|[_],r=>exact r.2.elim|_::_::_::_,r=>exact r.2.2.elim
theorem JH{ps:List ((Nat×Nat)×Addr)}(e:H l=some (.list (ps.map fun x=>.ref x.2)))(i:ps.length<=18)(f:∀x∈ps,x.1∈dX/\H x.2=some (.tup [.int x.1.1,.int x.1.2]))
  (q:∀r kps,H r=none->jG ps ps.length kps->Q (.ref r) (H.set r (.set (kps.map fun x=>.ref x.2)))):Calls X d H (.typ "set") [.ref l] Q:=fun u vs j a=>by
 obtain rfl:=j;refine⟨trivial,fun A g s b R=>?_⟩
 match vs,a with
 |[v],a=>
  obtain rfl:=a.1;obtain⟨Y,⟨n,h⟩,r⟩:=R.own _ _ e;rw[cj.refs r]at h;refine Mn (by have:=b.units;exact iw.cl b) b.handled ⟨_,h,rfl,n,rfl⟩ i (fun x c=>(f x c).1) (fun x c=>Y3 R (f x c).2) fun h' w kps S H' k=>?_;obtain⟨es,ep,t,m,L,o,T,p⟩:=S.ex;exact⟨.ref s.heap.objs.size,_,rfl,R.jg (ao:=.set (kps.map fun x=>.ref x.2)) k rfl ⟨es,ep,t,⟨o,T.fits p.le,T.plain,T.led,JJ T.tab.rise T.tab.place⟩,(Z T.es (Z f8 (cj.jF (fun x:(Nat×Nat)×Addr=>x.2) kps)))⟩,q _ kps R.fresh H'⟩
 |[],a=>exact a.elim|_::_::_,a=>exact a.2.elim
theorem ME{a:Addr}(e:H a=some (.set M))(f:M.length<=1000)(q:Q (.int M.length) H):Calls X d H (.blt "len") [.ref a] Q:=fun j h i b=>by
 obtain rfl:=i;refine⟨trivial,fun A g s k R=>?_⟩
 match h,b with
 |[v],b=>
  obtain rfl:=b.1;refine Cb (R.own _ _ e) fun es l t S r=>?_;have c:es.size=M.length:=by exact Z (ap r.length) (Z (ac ..) (Z gu rfl))
  refine call_len_set S.at' ⟨rfl,rfl,rfl⟩ rfl S.fits (Z c (pB (ab f (dd rfl)))) ⟨.int M.length,H,⟨_,by exact Z c rfl⟩,R.toks _,q⟩
 |[],b=>exact b.elim|_::_::_,b=>exact b.2.elim
theorem QQ{a:Addr}(e:H a=some (.set M))(f:M.length<=1000)(q:∀r ys,H r=none->ys.Perm M->Q (.ref r) (H.set r (.list ys))):Calls X d H (.typ "list") [.ref a] Q:=fun w h i b=>by
 obtain rfl:=i;refine⟨trivial,fun A g s j R=>?_⟩
 match h,b with
 |[v],b=>
  obtain rfl:=b.1;refine Cb (R.own _ _ e) fun es x t S r=>?_;have l:es.size=M.length:=by exact Z (ap r.length) (Z (ac ..) (Z gu rfl))
  refine Ng j.handled S (Z l (ab f (dd rfl))) fun y z c m k n o=>?_;exact Ad (cj.perm o r) fun ys p u=>⟨.ref s.heap.objs.size,_,rfl,R.jg (ao:=.list ys) k rfl ⟨c.toList,⟨m,by exact Z n rfl⟩,u⟩,q _ ys R.fresh p⟩
 |[],b=>exact b.elim|_::_::_,b=>exact b.2.elim
structure QV(K:Frag)(C:Addr)(name:Str)(p fa:Addr):Prop where
 find:kF K (.ref C) name=some (some (.ref p))
 getm:nL K (.ref p) "__get__"=some (some (.builtin "property.__get__"))
 takes:takesIn K (.ref p)=some true
 yR:∃rest,recIn K p "property"=some (.ref fa::rest)
theorem Ug{x C p fa:Addr}{f:At->V}{name:Str}{expr:Bool}(Ab:Gw X.K C)(P:QV X.K C name p fa)(e:H x=some (.inst C f))(h:aG X d H (.ref fa) [.ref x] fun v a=>(∀n,v≠.blt n)/\Q v a):
  PT X (d+1) H (getAttr (.ref x) name expr) VR Q:=fun A g s c R=>by
 obtain⟨B,D,l,E,⟨F,es,G,m,H',ad,_,L⟩,_,xs⟩:=R.own x _ e;refine Ad Ab.cls fun N o S=>AA P.yR fun j t=>?_;have k:=R.toks (s.toks+1);refine get_bind R.dN.1 ⟨l,rfl,rfl,m⟩ Ab.ga (findObj_data (by refine Z o ?_;rfl) P.find P.getm P.takes) Ab.gt (wpAny_call (prop_get k.dN.1 t ?_));have i:iw d A.in1:=⟨c.handled,by have:=c.depth;show A.depth+d<990;exact eP this,by have:=c.units;show A.units+1+40*d+400<kB;exact s8 this⟩
 refine iA ((h (.ref fa) [.ref x] rfl ⟨rfl,trivial⟩).2 A.in1 g _ i k) fun r u z=>?_;cases r with
 |error e=>exact z.elim|ok fl=>cases fl with
  |ret v=>
   obtain⟨b,a,r,w,y,q⟩:=z;show dy _ A (handedOut v) _ _ u;exact Z (handedOut_of (r.handed y)) (aE ⟨b,a,r,w,q⟩)
  |_=>exact z.elim
variable{o:Expr}
theorem xq{C p fa:Addr}{name:Str}(u:B2 o=true)(P:QV X.K C name p fa)(Ab:Gw X.K C)
  (h:ET X d H own env m (eval o env) VR fun a b=>∃k x f,d=k+1/\a=.ref x/\b x=some (.inst C f)/\aG X k b (.ref fa) [.ref x] fun v w=>(∀n,v≠.blt n)/\Q v w) :
  ET X d H own env m (eval (.Attribute o name pos) env) VR Q:=fun A g s t R S F=>by
 refine Attribute_any_ (h.use t R S F (fun v c a b r i j l=>B6 l fun k x f y z e q=>?_)) ?_
 ·subst z y;obtain rfl:=r;exact(Ug Ab P e q).et A g c t i S j
 ·exact Z (arm_eval_Attribute ..) (Z (Ge u) rfl)
theorem Ur{i:Int}(b:0<=i)(c:i<1000)(q:Q (.str (toString i)) H):Calls X d H (.typ "str") [.int i] Q:=fun h e f a=>by
 obtain rfl:=f;refine⟨trivial,fun A g s j R=>?_⟩
 match e,a with
 |[v],a=>
  obtain⟨t,rfl⟩:=a.1;exact str_of_int_fit (Z (if_neg (Int.not_lt_of_ge b)) c) (dd rfl) fun z=>⟨.str (toString i),H,⟨_,rfl⟩,R.toks _,q⟩
 |[],a=>exact a.elim|_::_::_,a=>exact a.2.elim
theorem Jx{b:Bool}(q:Q (.int (if b then 1 else 0)) H):Calls X d H (.typ "int") [.bool b] Q:=fun f c e a=>by
 obtain rfl:=e;refine⟨trivial,fun A g s h R=>?_⟩
 match c,a with
 |[v],a=>
  obtain rfl:=a.1;exact call_int_bool ⟨.int (if b then 1 else 0),H,⟨_,rfl⟩,R.toks _,q⟩
 |[],a=>exact a.elim|_::_::_,a=>exact a.2.elim
variable{va:bm}
theorem Rh{n:bm}{a:Addr}{b:Bool}(o:VR va (.ref a))(p:VR n (.int (if b then 1 else 0)))(e:H a=some (.list M))(t:M.length<=1000)
  (q:∀c,H c=none->Q (.ref c) (H.set c (.list (if b then M else[])))):PT X d H (kC .Mult va n) VR Q:=fun A g s G R=>by
 obtain rfl:va=.ref a:=o;obtain⟨u,rfl⟩:=p;obtain⟨f,⟨k,h⟩,r⟩:=R.own _ _ e;have l:f.length<=1000:=Z r.length t;have i:∀(x:Int) (j:List bm),0<=x->x<=1->(List.foldl (fun m y=>m++y) #[] (f6 (if f.toArray.isEmpty=true then 0 else x.toNat) f.toArray))=j.toArray->cj j (if b then M else[]) ->
   dy (eA X.prog X.w) A (kC .Mult (.ref a) (.int x u)) (Ps X g VR Q) (fun w w=>False) s:=by
  intro x j H' m B C;have D:x.toNat<=1:=Int.toNat_le.mpr m;have ad:f.length*x.toNat<=1000:=ab (dE _ D) (Nat.mul_le_of_le_div 1 f.length 1000 l);refine wpAny_binaryOp_repeat_ref (dd rfl) ⟨_,h,rfl⟩ (fun E=>typeIs_int E _ u) noFill_list_mul PySem.F.fills_int_mul PySem.F.slot_int_rmul repeat_list PySem.F.slot_int_index.lookup
   (sx PySem.F.slot_int_rmul (typeIs_int s _ u) PySem.F.entry_int_rmul (PySem.F.args_int_rmul_2 _ _) (int___rmul___int_list _ u a f.toArray k)
    ⟨h,rfl,⟨_,h,rfl⟩,sx PySem.F.slot_list_mul ⟨_,h,rfl⟩ PySem.F.entry_list_mul (PySem.F.args_list_mul_2 _ _)
     (AutoListH.list___mul___list_int_3 a f.toArray k _ u (by simp[Builtin.List.listFitsIndex];lia) (by refine Z bE ?_;lia) (by simp[pk,aT];lia))
     ⟨h,?_⟩⟩)
  exact Z B ⟨.ref s.heap.objs.size,_,rfl,R.push _ (.list (if b then M else[])) (fun w w z=>nomatch z) ⟨j,⟨0,cn _ rfl⟩,C⟩,q _ R.fresh⟩
 cases b
 ·exact i 0 [] (dd rfl) (dd rfl) (by simp) trivial
 ·refine i 1 f (dd rfl) (dd rfl) ?_ r;cases f with
  |nil=>rfl|cons v f=>simp
abbrev WE:=U->List V->(V->U->Prop)->Prop
abbrev WT:=U->List V->(Bool->U->Prop)->Prop
abbrev WL:=U->List V->(List V->U->Prop)->Prop
abbrev WS:=U->List V->(bu->U->List V->Prop)->Prop
abbrev WX:=Cx->Nat->(String->V)->WS
abbrev WY:=Addr->List Int->WX
abbrev Bf:=List (Str×ce)
noncomputable def Bk(a b:List String):Bf:=a.map (fun x=>(ae x,uk))++b.map fun x=>(ae x,uj)
abbrev WI:=U->List V->(List V->(U->Prop)->U->Prop)->Prop
structure fM(sc:List (Str×ce))(env:Env):Prop where
 names:env.scope.names=sc
 kind:env.scope.kind=.function
theorem fM.oY{sc:List (Str×ce)}(h:fM sc env):interactive env=false:=by unfold interactive;refine Z h.kind ?_;rfl
def qT(cm:Addr->Bool)(H:U)(a b:V):Option Bool:=match b with
 |.ref l=>match H l with
  |some (.list c)=>B0 (fun y=>dK cm H 7 y a) c
  |some (.dict es _)=>match a with
   |.str x=>some (es.lookup x).isSome
   |_=>none
  |_=>none
 |_=>none
def Ye(cm:Addr->Bool)(H:U)(a b:V):Option Bool:=match b with
 |.ref l=>match H l with
  |some (.list c)=>(B0 (fun y=>dK cm H 7 y a) c).map (!·)
  |some (.tup c)=>(B0 (fun y=>dK cm H 7 y a) c).map (!·)
  |some (.dict es _)=>match a with
   |.str x=>some !(es.lookup x).isSome
   |_=>none
  |_=>none
 |_=>none
def Bv(cm:Addr->Bool)(H:U)(op:mE)(a b:V):Option Bool:=match op with
 |.Eq=>dK cm H 8 a b
 |.NotEq=>(dK cm H 8 a b).map (!·)
 |.Is=>pq H a b
 |.IsNot=>(pq H a b).map (!·)
 |.In=>qT cm H a b
 |.NotIn=>Ye cm H a b
 |.Lt=>match a,b with|.int x,.int y=>some (decide (x<y))|_,_=>none
 |.Gt=>match a,b with|.int x,.int y=>some (decide (y<x))|_,_=>none
 |.GtE=>match a,b with|.int x,.int y=>some (decide (y<=x))|_,_=>none
 |_=>none
theorem K2{o:Option Bool}{k:Bool}(h:o.map (!·)=some k):∃j,o=some j/\k=!j:=by
 cases o with
 |none=>cases h
 |some j=>exact⟨j,rfl,(ag h).symm⟩
variable{cm:Addr->Bool}{a b:V}
theorem GK :Bv cm H .Eq a b=dK cm H 8 a b:=rfl
theorem Dv :Bv cm H .NotEq a b=(dK cm H 8 a b).map (!·):=rfl
theorem Xy :Bv cm H .Is a b=pq H a b:=rfl
theorem N4 :Bv cm H .In a b=qT cm H a b:=rfl
theorem SD :Bv cm H .NotIn a b=Ye cm H a b:=rfl
theorem O7 :qT cm H a (.ref l)=(match H l with
   |some (.list ys)=>B0 (fun y=>dK cm H 7 y a) ys
   |some (.dict es _)=>match a with|.str x=>some (es.lookup x).isSome|_=>none
   |_=>none):=rfl
theorem Abp(Ab:CX X){c:bm}{k:Bool}(f:VR va a)(g:VR c b)(h:qT X.cm H a b=some k)(q:Q (.bool k) H):PT X d H (gX .In va c) VR Q:=by
 cases b with
 |ref l=>
  rw[O7]at h;cases e:H l with
  |none=>rw[e]at h;cases h
  |some o=>
   rw[e]at h;cases o with
   |list i=>exact TM Ab f g e h q|dict es j=>cases a with
    |str x=>cases h;exact T7 f g e q
    |_=>cases h
   |_=>cases h
 |_=>cases h
theorem LM :Ye cm H a (.ref l)=(match H l with
   |some (.list ys)=>(B0 (fun y=>dK cm H 7 y a) ys).map (!·)
   |some (.tup ys)=>(B0 (fun y=>dK cm H 7 y a) ys).map (!·)
   |some (.dict es _)=>match a with|.str x=>some !(es.lookup x).isSome|_=>none
   |_=>none):=rfl
theorem X7(Ab:CX X){m:bm}{k:Bool}(f:VR va a)(g:VR m b)(h:Ye X.cm H a b=some k)(q:Q (.bool k) H):PT X d H (gX .NotIn va m) VR Q:=by
 cases b with
 |ref l=>
  rw[LM]at h;cases e:H l with
  |none=>rw[e]at h;cases h
  |some o=>
   rw[e]at h;cases o with
   |list n=>refine Ad (K2 h) fun j i c=>?_;subst c;exact OG Ab f g e i q
   |tup n=>refine Ad (K2 h) fun j i c=>?_;subst c;exact QU Ab f g e i q
   |dict es p=>cases a with
    |str x=>cases h;exact OE f g e q
    |_=>cases h
   |_=>cases h
 |_=>cases h
theorem Pa{P:Int->Int->Bool}{k:Bool}(h:(match a,b with|.int x,.int y=>some (P x y)|_,_=>none)=some k):∃x y,a=.int x/\b=.int y/\P x y=k:=by
 cases a with
 |int x=>cases b with
  |int y=>cases h;exact⟨x,y,rfl,rfl,rfl⟩
  |_=>cases h
 |_=>cases h
theorem Sa(Ab:CX X){op:mE}{m:bm}{k:Bool}(g:VR va a)(i:VR m b)(h:Bv X.cm H op a b=some k)(q:Q (.bool k) H):PT X d H (gX op va m) VR Q:=by
 cases op with
 |Eq=>exact AdY Ab g i h q|NotEq=>refine Ad (K2 h) fun j l c=>?_;subst c;exact vV Ab g i l q
 |Is=>exact ut g i h (.inl rfl) q|IsNot=>refine Ad (K2 h) fun j l c=>?_;subst c;exact ut g i l (.inr rfl) (by simpa using q)
 |Lt=>refine Ay (Pa h) fun x y c e f=>?_;subst c e f;exact JK g i (.inl ⟨rfl,rfl⟩) q
 |Gt=>refine Ay (Pa h) fun x y c e f=>?_;subst c e f;exact JK g i (.inr (.inl ⟨rfl,rfl⟩)) q
 |GtE=>refine Ay (Pa h) fun x y c e f=>?_;subst c e f;exact JK g i (.inr (.inr (.inr (.inr ⟨rfl,rfl⟩)))) q
 |In=>exact Abp Ab g i h q|NotIn=>exact X7 Ab g i h q|_=>cases h
inductive F0(op:o3)(a b:V)(H:U)(Q:V->U->Prop):Prop where
 |pL (i j:Int):op=.Add->a=.int i->b=.int j->Q (.int (i+j)) H->F0 op a b H Q
 |pW (i j:Int):op=.Sub->a=.int i->b=.int j->Q (.int (i-j)) H->F0 op a b H Q
 |adds (s t:String):op=.Add->a=.str s->b=.str t->s.toList.length+t.toList.length<=aT->Q (.str (s++t)) H->F0 op a b H Q
 |qw (i j:Int):op=.Mod->a=.int i->b=.int j->0<j->Q (.int (i%j)) H->F0 op a b H Q
 |qx (i j:Int):op=.FloorDiv->a=.int i->b=.int j->0<j->i.natAbs<2^60->j.natAbs<2^29->Q (.int (i/j)) H->F0 op a b H Q
 |p6 (i j:Int):op=.Mult->a=.int i->b=.int j->i.natAbs<2^60->j.natAbs<2^60->Q (.int (i*j)) H->F0 op a b H Q
 |qy (x y:Addr) (M ys:List V):op=.Add->a=.ref x->b=.ref y->H x=some (.list M)->H y=some (.list ys)->M.length+ys.length<=aT->(∀c,H c=none->Q (.ref c) (H.set c (.list (M++ys))))->F0 op a b H Q
 |qG (x:Addr) (M:List V) (c:Bool):op=.Mult->a=.ref x->b=.int (if c then 1 else 0)->H x=some (.list M)->M.length<=1000->(∀r,H r=none->Q (.ref r) (H.set r (.list (if c then M else[]))))->F0 op a b H Q
theorem XJ{op:o3}{p:bm}(l:VR va a)(m:VR p b)(h:F0 op a b H Q):PT X d H (kC op va p) VR Q:=by
 cases h with
 |pL i j f g k q=>subst f g k;exact TZ l m q
 |pW i j f g k q=>subst f g k;exact TI l m q
 |adds s t f g k h q=>subst f g k;exact Uq l m h q
 |qw i j f g k h q=>subst f g k;exact yG l m h q
 |qx i j f g k h n r q=>subst f g k;exact RK l m h n r q
 |p6 i j f g k h n q=>subst f g k;exact Aci l m h n q
 |qy x y u w f g k e v o q=>subst f g k;exact RG l m e v o q
 |qG x u c f g k e o q=>subst f g k;exact Rh l m e o q
variable{j:Int}
theorem zM{i:Int}(q:Q (.int (i+j)) H):F0 .Add (.int i) (.int j) H Q:=.pL _ _ rfl rfl rfl q
theorem AaA{i:Int}(q:Q (.int (i-j)) H):F0 .Sub (.int i) (.int j) H Q:=.pW _ _ rfl rfl rfl q
theorem Uy{i:Int}(h:0<j)(q:Q (.int (i%j)) H):F0 .Mod (.int i) (.int j) H Q:=.qw _ _ rfl rfl rfl h q
theorem xH{i:Int}(h:0<j)(a:i.natAbs<2^60)(b:j.natAbs<2^29)(q:Q (.int (i/j)) H):F0 .FloorDiv (.int i) (.int j) H Q:=.qx _ _ rfl rfl rfl h a b q
theorem yE{i:Int}(a:i.natAbs<2^60)(b:j.natAbs<2^60)(q:Q (.int (i*j)) H):F0 .Mult (.int i) (.int j) H Q:=.p6 _ _ rfl rfl rfl a b q
theorem KM{x y:Addr}{ys:List V}(e:H x=some (.list M))(a:H y=some (.list ys))(b:M.length+ys.length<=aT)(q:∀c,H c=none->Q (.ref c) (H.set c (.list (M++ys)))):F0 .Add (.ref x) (.ref y) H Q:=.qy _ _ _ _ rfl rfl rfl e a b q
inductive SH(X:Cx)(k:At)(a:V)(H:U)(Q:V->U->Prop):Prop where
 |mk (x C:Addr) (f:At->V):a=.ref x->H x=some (.inst C f)->X.cm C=true->f k≠.aa->(∀n,f k≠.blt n)->Q (f k) H->SH X k a H Q
inductive Iw(X:Cx)(k:At)(a b:V)(H:U)(Q:U->Prop):Prop where
 |mk (x C:Addr) (f:At->V):b=.ref x->H x=some (.inst C f)->X.cm C=true->Q (H.set x (.inst C (upd f k a)))->Iw X k a b H Q
inductive Rg(X:Cx)(op:mE)(a b:V)(H:U)(P:Bool->Prop):Prop where
 |mk (k:Bool):Bv X.cm H op a b=some k->P k->Rg X op a b H P
inductive JZ(a:V)(P:Bool->Prop):Prop where
 |mk (b:Bool):a=.bool b->P b->JZ a P
inductive Wb(H:U)(a b:V)(P:V->Prop):Prop where
 |mk (v:V):Mt H a b v->P v->Wb H a b P
inductive ZX(X:Cx)(H:U)(a:V)(name:String)(P:V->Prop):Prop where
 |mk (f:V):aO X H a (ae name) f->P f->ZX X H a name P
inductive Q7(H:U)(a:V)(P:Addr->List V->Prop):Prop where
 |mk (l:Addr) (M:List V):a=.ref l->H l=some (.list M)->P l M->Q7 H a P
inductive rM(H:U)(a:V)(n:Nat)(P:List V->Prop):Prop where
 |mk (r:Addr) (M:List V):a=.ref r->H r=some (.tup M)->M.length=n->P M->rM H a n P
inductive M9(o:bI)(n:Nat)(H:U)(Q:V->U->Prop):Prop where
 |mk:n<=aT->(∀r,H r=none->Q (.ref r) (H.set r o))->M9 o n H Q
def uX(a:V)(P:Prop):Prop:=a≠.aa/\P
def Iz(b c a:V)(H:U)(Q:U->Prop):Prop:=match b with
 |.ref l=>(∃d k,H l=some (.list d)/\c=.int (k:Nat)/\k<d.length/\k<2^60/\Q (H.set l (.list (d.set k a))))\/(∃es e x,H l=some (.dict es e)/\c=.str x/\es.lookup x=none/\es.length<1000/\∀e,Q (H.set l (.dict (es++[(x,a)]) e)))
 |_=>False
theorem Qh{c:V}{g i:bm}{Q:U->Prop}(j:VR va a)(m:VR g b)(n:VR i c)(h:Iz b c a H Q):PT X d H (setItem g i va) (fun _ (z:Unit)=>True) fun z aan=>Q aan:=by
 cases b with
 |ref l=>
  rcases h with⟨r,k,e,rfl,o,f,q⟩|⟨es,s,x,e,rfl,p,f,q⟩
  ·exact MH e m n j o f q
  ·exact LI e m n j p f q
 |_=>exact h.elim
structure bB(X:Cx)(d:Nat)(own:Bool)(sc:List (Str×ce))(e:Expr)(W:WE):Prop where
 h:∀env H m Q,fM sc env->W H m Q->ET X d H own env m (eval e env) VR Q
structure lA(X:Cx)(d:Nat)(own:Bool)(sc:List (Str×ce))(e:Expr)(W:WT):Prop where
 h:∀env H m Q,fM sc env->W H m Q->ET X d H own env m (isTrue e env (eval e env)) Eq Q
structure nF(X:Cx)(d:Nat)(own:Bool)(sc:List (Str×ce))(es:List Expr)(W:WL):Prop where
 h:∀env pos H m Q,fM sc env->W H m Q->ET X d H own env m (mr (kD pos (ix es env))) cj Q
structure pZ(X:Cx)(d:Nat)(own:Bool)(sc:List (Str×ce))(ks:List (String×Nat×Pos))(es:List Expr)(W:U->List V->(List (String×V)->U->Prop)->Prop):Prop where
 h:∀env pos H m Q,fM sc env->W H m Q->ET X d H own env m (pi (pe (LF ks) es env pos)) Ht Q
structure lg(X:Cx)(d:Nat)(own:Bool)(sc:List (Str×ce))(e:Expr)(W:WI):Prop where
 h:∀env H m Q,fM sc env->W H m Q->IT X d H own env m (eval e env) fun priv H' Itr aaa=>∃ok items,gj X d ok items priv H' Itr/\JS X H' Itr/\Q items ok aaa
structure d9(X:Cx)(d:Nat)(own:Bool)(sc:List (Str×ce))(s:Stmt)(W:WS):Prop where
 h:∀env H m Q,fM sc env->W H m Q->ST X d H own env m (exec s env) iY Q
structure lB(X:Cx)(d:Nat)(own:Bool)(sc:List (Str×ce))(s:List Stmt)(W:WS):Prop where
 h:∀env H m Q,fM sc env->W H m Q->ST X d H own env m (ot s env) iY Q
noncomputable def vJ(sc:List (Str×ce))(x:Str):Nat:=sc.findIdx fun y=>y.1==x
def O(i:Nat):WE:=fun H m Q=>uX (m.getD i .aa) (Q (m.getD i .aa) H)
def Ae(v:V):WE:=fun H z Q=>Q v H
def A1(op:o3)(A B:WE):WE:=fun H m Q=>A H m fun a c=>B c m fun b d=>F0 op a b d Q
def Cu(X:Cx)(op:mE)(A B:WE):WE:=fun H m Q=>A H m fun a d=>B d m fun b c=>Rg X op a b c fun k=>Q (.bool k) c
def je(T:WT)(A B:WE):WE:=fun H m Q=>T H m fun c a=>if c then A a m Q else B a m Q
def YM(A:WE):WE:=fun H m Q=>A H m fun a c=>JZ a fun b=>Q (.bool !b) c
def XD(A:WE):WE:=fun H m Q=>A H m fun a b=>∃i,a=.int i/\Q (.int (-i)) b
def IE(A B:WE):WE:=fun H m Q=>A H m fun a c=>JZ a fun b=>if b then B c m Q else Q (.bool false) c
def pN(A B:WE):WE:=fun H m Q=>A H m fun a c=>JZ a fun b=>if b then Q (.bool true) c else B c m Q
def Ag:WL:=fun H z Q=>Q [] H
def Ac(A:WE)(B:WL):WL:=fun H m Q=>A H m fun a b=>B b m fun d c=>Q (a::d) c
def AF(A:WL):WE:=fun H m Q=>A H m fun b a=>M9 (.list b) b.length a Q
def Bg(A:WL):WE:=fun H m Q=>A H m fun b a=>M9 (.tup b) b.length a Q
def P3:U->List V->(List (String×V)->U->Prop)->Prop:=fun H z Q=>Q [] H
def Ft(x:String)(A:WE)(B:U->List V->(List (String×V)->U->Prop)->Prop):U->List V->(List (String×V)->U->Prop)->Prop:=fun H m Q=>A H m fun a b=>B b m fun d c=>Q ((x,a)::d) c
def PZ(A:U->List V->(List (String×V)->U->Prop)->Prop):WE:=fun H m Q=>A H m fun b a=>(b.map (·.1)).Nodup/\b.length<=100/\∀r c,a r=none->Q (.ref r) (a.set r (.dict b c))
def Q9:WE:=fun H m Q=>∀r a,H r=none->Q (.ref r) (H.set r (.dict [] a))
def Aj(X:Cx)(k:At)(A:WE):WE:=fun H m Q=>A H m fun a b=>SH X k a b Q
def Ax(A B:WE):WE:=fun H m Q=>A H m fun a d=>B d m fun b c=>Wb c a b fun v=>Q v c
def Ct(A:WE):WE:=fun H m Q=>A H m fun a b=>Q7 b a fun z c=>M9 (.list c.reverse) c.length b Q
def K1(A B:WE):WE:=fun H m Q=>A H m fun a e=>B e m fun b d=>∃r f,∃k:Nat,a=.ref r/\d r=some (.list f)/\b=.int k/\f.length<=aT/\∀c,d c=none->Q (.ref c) (d.set c (.list (f.drop k)))
def Pu(A B:WE):WE:=fun H m Q=>A H m fun a e=>B e m fun b d=>∃r f,∃k:Nat,a=.ref r/\d r=some (.tup f)/\b=.int k/\1<=k/\k<=f.length/\f.length<=aT/\∀c,d c=none->Q (.ref c) (d.set c (.tup (f.drop k)))
def Ai(X:Cx)(d:Nat)(f:V)(A:WL):WE:=fun H m Q=>A H m fun b a=>Calls X d a f b Q
def AC(X:Cx)(d:Nat)(name:String)(A:WE)(B:WL):WE:=fun H m Q=>A H m fun a b=>ZX X b a name fun f=>B b m fun e c=>Calls X d c f (a::e) Q
def Hb(X:Cx)(d:Nat)(cls e:V)(A:WE):WE:=fun H m Q=>A H m fun a b=>∃c x C f,d=c+1/\cls=.ref C/\a=.ref x/\b x=some (.inst C f)/\aG X c b e [.ref x] fun v g=>mO v=false/\Q v g
def Av(A:WE):WT:=fun H m Q=>A H m fun a c=>JZ a fun b=>Q b c
def FL(A:WT):WT:=fun H m Q=>A H m fun b a=>Q (!b) a
def Ap(X:Cx)(op:mE)(A B:WE):WT:=fun H m Q=>A H m fun a d=>B d m fun b c=>Rg X op a b c fun k=>Q k c
def AP(A B:WT):WT:=fun H m Q=>A H m fun b a=>if b then B a m Q else Q false a
def Bq(A B:WT):WT:=fun H m Q=>A H m fun b a=>if b then Q true a else B a m Q
def AI:WT:=fun H m Q=>Q true H
def A7:WT:=fun H m Q=>Q false H
def Au(A:WE):WI:=fun H m Q=>A H m fun a b=>Q7 b a fun l c=>Q c (fun H=>H l=some (.list c)) b
def Nr(A:WE):WI:=fun H m Q=>A H m fun a b=>∃l c,a=.ref l/\((b l=some (.list c)/\Q c.reverse (fun H=>H l=some (.list c)) b)\/(b l=some (.tup c)/\c.length<2^60/\Q c.reverse (fun H=>H l=some (.tup c)) b))
def GT(A:WE):WI:=fun H m Q=>A H m fun a b=>∃n:Nat,a=.int n/\n<2^60/\Q (PP n) (fun z=>True) b
noncomputable def Nm(m:List V):Option Nat->V
 |none=>.aa
 |some j=>m.getD j .aa
def Et(a sc:List (Str×ce)):List (Option Nat):=a.map fun x=>match x.2 with
 |.free=>some (vJ sc x.1)
 |_=>none
def Bm(e:WI)(f:Nat->V->U->List V->Option (List V))(T:WT)(A:WE)(c:List (Option Nat)):WE:=fun H m Q=>
 e H m fun a ok d=>a.length<=aT/\cN f ok T A (fun g b=>∀r,b r=none->Q (.ref r) (b.set r (.list g))) 0 [] a d (c.map (Nm m))
def AU:WS:=fun H m Q=>Q .next H m
def az(A B:WS):WS:=fun H m Q=>A H m fun fl a b=>match fl with
 |.next=>B a b Q
 |fl=>Q fl a b
def Ar(i:Nat)(A:WE):WS:=fun H m Q=>A H m fun a b=>Q .next b (m.set i a)
def CR(is:List Nat)(A:WE):WS:=fun H m Q=>A H m fun a b=>rM b a is.length fun c=>Q .next b (Do m is c)
def Dn(i j:Nat)(A B:WE):WS:=fun H m Q=>A H m fun a d=>B d m fun b c=>∀r,c r=none->Q .next (c.set r (.tup [a,b])) ((m.set j b).set i a)
def wExpr(A:WE):WS:=fun H m Q=>A H m fun z a=>Q .next a m
def AT(A:WE):WS:=fun H m Q=>A H m fun a b=>Q (.ret a) b m
def bj(T:WT)(A B:WS):WS:=fun H m Q=>T H m fun c a=>if c then A a m Q else B a m Q
def Aq(X:Cx)(k:At)(aj Ab:WE):WS:=fun H m Q=>aj H m fun a c=>Ab c m fun b d=>Iw X k a b d fun H=>Q .next H m
def ER(X:Cx)(k:At)(Ab aj:WE):WS:=fun H m Q=>Ab H m fun b a=>∃x C f,b=.ref x/\a x=some (.inst C f)/\X.cm C=true/\∃i,f k=.int i /\
   aj a m fun c d=>∃j e,c=.int j/\d x=some (.inst C e)/\Q .next (d.set x (.inst C (upd e k (.int (i+j))))) m
def Iv(aj Ab H':WE):WS:=fun H m Q=>aj H m fun a d=>Ab d m fun b e=>H' e m fun c f=>Iz b c a f fun g=>Q .next g m
def DC(T:WT)(B:WS):WS:=fun H m Q=>∃(H':Nat->U->List V->Prop) (n:Nat),H' n H m/\∀n H m,H' n H m->T H m fun c d=>if c then B d m fun fl a b=>(match fl with
    |.next|.cont=>∃k,k<n/\H' k a b
    |.brk=>Q .next a b
    |.ret v=>Q (.ret v) a b)else Q .next d m
def CG(c:WI)(d:Nat->V->U->List V->Option (List V))(B:WS):WS:=fun H m Q=>c H m fun a ok b=>forL d ok B Q 0 a b m
def CP(A:WE)(is:List Nat)(B:WS):WS:=fun H m Q=>A H m fun a b=>Q7 b a fun l c=>forL (Oo is) (fun H=>H l=some (.list c)) B Q 0 c b m
def IA(A:WE)(i:Nat)(B:WS):WS:=fun H m Q=>A H m fun a b=>∃D es c,a=.ref D/\b D=some (.dict es c)/\forL (AB i) (fun H=>H D=some (.dict es c)) B Q 0 (HF es) b m
variable{sc:List (Str×ce)}{p' aaj aat:Pos}{k k':Nat}
theorem uE{a:ce}(c:sc[i]?=some (x,a))(e:a=.local\/a=.cell\/a=.free)(f:(x==("__debug__":Str))=false)(b:(x==("__classdict__":Str))=false):bB X d own sc (.Name x p) (O i):=
 ⟨fun g H m Q E h=>za (Z E.names c) e f b h.1 h.2⟩
theorem YS{v:V}(a:sc.lookup x=some uj)(b:Ku X x v)(c:(x==("__debug__":Str))=false):bB X d own sc (.Name x p) (Ae v):=
 ⟨fun e H m Q E h=>Rl (Z E.names a) b c h⟩
theorem X5:bB X d own sc (.Constant .none k p) (Ae .none):=⟨fun a H m Q E h=>yJ h⟩
theorem YZ{b:Bool}:bB X d own sc (.Constant (.bool b) k p) (Ae (.bool b)):=⟨fun a H m Q E h=>Abm h⟩
theorem xf{i:Int}:bB X d own sc (.Constant (.int i) k p) (Ae (.int i)):=⟨fun a H m Q E h=>Va h⟩
theorem vA{x:String}:bB X d own sc (.Constant (.str (ae x)) k p) (Ae (.str x)):=⟨fun a H m Q E h=>vM h⟩
variable{A B:WE}
theorem yM{op:o3}{l r:Expr}(a:bB X d own sc l A)(b:bB X d own sc r B):bB X d own sc (.BinOp l op r p) (A1 op A B):=⟨fun c H m Q E h=>
 qp ((a.h c H m _ E h).mono fun x e h=>(b.h c e m _ E h).mono fun y f h j k g i=>XJ g i h)⟩
theorem uC(Ab:CX X){op:mE}{l r:Expr}(a:bB X d own sc l A)(b:bB X d own sc r B)(i:lb op r=false):bB X d own sc (.Compare l [op] [r] p) (Cu X op A B):=⟨fun c H m Q E h=>
 qz ((a.h c H m _ E h).mono fun x e h=>(b.h c e m _ E h).mono fun y g f=>f.casesOn fun k j q s t n o=>Sa Ab n o j q) i⟩
variable{t:Expr}
theorem vZ{b:Expr}{T:WT}(f:lA X d own sc t T)(g:bB X d own sc b A)(i:bB X d own sc o B):bB X d own sc (.IfExp t b o p) (je T A B):=⟨fun e H m Q E h=>
 nR ((f.h e H m _ E h).mono fun c a h=>by
  cases c with
  |true=>exact g.h e a m Q E h|false=>exact i.h e a m Q E h)⟩
variable{e:Expr}
theorem yD(a:bB X d own sc e A):bB X d own sc (.UnaryOp .Not e p) (YM A):=⟨fun c H m Q E h=>uY ((a.h c H m _ E h).mono fun x g f=>f.casesOn fun b e q=>⟨b,e,q⟩)⟩
theorem Abj(a:bB X d own sc e A):bB X d own sc (.UnaryOp .USub e p) (XD A):=⟨fun b H m Q E h=>WV (a.h b H m _ E h)⟩
theorem wO{op:BoolOp}(a:bB X d own sc e A):bB X d own sc (.BoolOp op [e] p) A:=⟨fun b H m Q E h c g s f R S F=>BoolOp_one (a.h b H m Q E h c g s f R S F)⟩
theorem Z9{e₁ e₂:Expr}{f:List Expr}(a:bB X d own sc e₁ A)(b:bB X d own sc (.BoolOp .And (e₂::f) p) B):bB X d own sc (.BoolOp .And (e₁::e₂::f) p) (IE A B):=⟨fun g H m Q E h=>
 pM ((a.h g H m _ E h).mono fun x i j=>j.casesOn fun c e h=>⟨c,e,by
  cases c with
  |true=>exact b.h g i m Q E h|false=>exact h⟩)⟩
theorem vD{e₁ e₂:Expr}{f:List Expr}(a:bB X d own sc e₁ A)(b:bB X d own sc (.BoolOp .Or (e₂::f) p) B):bB X d own sc (.BoolOp .Or (e₁::e₂::f) p) (pN A B):=⟨fun g H m Q E h=>
 rN ((a.h g H m _ E h).mono fun x i j=>j.casesOn fun c e h=>⟨c,e,by
  cases c with
  |true=>exact h|false=>exact b.h g i m Q E h⟩)⟩
theorem yt:nF X d own sc [] Ag:=⟨fun a pos H m Q E h=>W3 h⟩
variable{es:List Expr}
theorem XQ{B:WL}(g:eB e=false)(a:bB X d own sc e A)(b:nF X d own sc es B):nF X d own sc (e::es) (Ac A B):=⟨fun c pos H m Q E h=>
 O9 g ((a.h c H m _ E h).mono fun x f h=>b.h c pos f m _ E h)⟩
theorem Xq{A:WL}(a:nF X d own sc es A):bB X d own sc (.List es p) (AF A):=⟨fun b H m Q E h=>Z2 ((a.h b p H m _ E h).mono fun x f c=>c.casesOn fun e q=>⟨e,q⟩)⟩
theorem wI{A:WL}(a:nF X d own sc es A):bB X d own sc (.Tuple es k p) (Bg A):=⟨fun b H m Q E h=>Ta ((a.h b p H m _ E h).mono fun x f c=>c.casesOn fun e q=>⟨e,q⟩)⟩
theorem XS:pZ X d own sc [] [] P3:=⟨fun a pos H m Q E h=>Te h⟩
theorem Wv{x:String}{f:List (String×Nat×Pos)}{v:Expr}{vs:List Expr}{B:U->List V->(List (String×V)->U->Prop)->Prop}(a:bB X d own sc v A)(b:pZ X d own sc f vs B):pZ X d own sc ((x,k,p)::f) (v::vs) (Ft x A B):=⟨fun c pos H m Q E h=>
 lZ ((a.h c H m _ E h).mono fun x e h=>b.h c pos e m _ E h)⟩
theorem XY{b:List (String×Nat×Pos)}{vs:List Expr}{A:U->List V->(List (String×V)->U->Prop)->Prop}(a:pZ X d own sc b vs A)(e:b.length=vs.length)(f:b≠[])(g:b.length<=15):bB X d own sc (.Dict (LF b) vs p) (PZ A):=⟨fun c H m Q E h=>
 v4 e f g (a.h c p H m _ E h)⟩
theorem Vo:bB X d own sc (.Dict [] [] p) Q9:=⟨fun a H m Q E h=>YI h⟩
theorem Yx(Ab:CX X){a:At}(g:B2 o=true)(h:bB X d own sc o A):bB X d own sc (.Attribute o a.s p) (Aj X a A):=⟨fun b H m Q E w=>
 vq g ((h.h b H m _ E w).mono fun v e c=>c.casesOn fun x C f i j k l n q=>⟨x,C,f,i,j,Ab.cls C k,l,n,q⟩)⟩
theorem XX{y:Str}{C t fa:Addr}{cls i:V}(Ab:Gw X.K C)(u:cls=.ref C)(B:i=.ref fa)(P:QV X.K C y t fa)(D:B2 o=true)(h:bB X d own sc o A):bB X d own sc (.Attribute o y p) (Hb X d cls i A):=⟨fun a H m Q E w=>
 xq D P Ab ((h.h a H m _ E w).mono fun v j c=>Fp c fun F x AH G=>BU G fun f H' ad L e q=>by
  have:=V.ref.inj (ad.symm.trans u);subst this B;exact⟨F,x,f,H',L,e,fun k l r n=>⟨(q k l r n).1,fun A g s xs R=>iA ((q k l r n).2 A g s xs R) fun r aj z=>by
   cases r with
   |error e=>exact z|ok fl=>cases fl with
    |ret v=>obtain⟨b,N,r,S,T,q⟩:=z;exact⟨b,N,r,S,nb T,q⟩
    |_=>exact z⟩⟩)⟩
theorem AaQ{i:Expr}(k:F8 i=true)(a:bB X d own sc o A)(b:bB X d own sc i B):bB X d own sc (.Subscript o i p) (Ax A B):=⟨fun c H m Q E h=>
 wz k ((a.h c H m _ E h).mono fun x f h=>(b.h c f m _ E h).mono fun y j g=>g.casesOn fun v e q=>⟨v,e,q⟩)⟩
theorem Z5(a:bB X d own sc o A):bB X d own sc (.Subscript o (.Slice none none (some (.UnaryOp .USub (.Constant (.int 1) k aaj) aat)) p') p) (Ct A):=⟨fun b H m Q E h=>
 iI ((a.h b H m _ E h).mono fun x g c=>c.casesOn fun r i j e f=>f.casesOn fun l q=>Dx (Dx (Jo (WV (Va ⟨1,rfl,-1,rfl,r,i,i.reverse,j,e,l,dd rfl,WR,q⟩)))))⟩
theorem XA{i:Expr}(a:bB X d own sc o A)(b:bB X d own sc i B):bB X d own sc (.Subscript o (.Slice (some i) none none p') p) (K1 A B):=⟨fun c H m Q E h=>
 iI ((a.h c H m _ E h).mono fun x f h=>Jo ((b.h c f m _ E h).mono fun y j g=>Cb g fun r l k n s=>Bt s fun e t u q=>⟨k,t,Dx (Dx ⟨r,l,l.drop k,n,e,u,by simp,Tz k,q⟩)⟩))⟩
theorem VN{i:Expr}(a:bB X d own sc o A)(b:bB X d own sc i B):bB X d own sc (.Subscript o (.Slice (some i) none none p') p) (Pu A B):=⟨fun c H m Q E h=>
 lK ((a.h c H m _ E h).mono fun x e h=>b.h c e m _ E h)⟩
theorem Xo{f:Str}{v:V}{A:WL}(g:es.all (fun e=>!isStarred e)=true)(i:sc.lookup f=some uj)(j:Ku X f v)(k:(f==("__debug__":Str))=false)(l:∀c,VR c v->Ey X.K c)(a:nF X d own sc es A):
  bB X d own sc (.Call (.Name f p') es [] p) (Ai X d v A):=⟨fun b H m Q E h=>
 z7 g (Rl (Z E.names i) j k ⟨l,a.h b p H m _ E h⟩)⟩
theorem Yt{name:String}{B:WL}(j:B2 o=true)(k:es.all (fun e=>!isStarred e)=true)(l:es.length<30)(n:(p'.endLine==p.line)=true)(a:bB X d own sc o A)(b:nF X d own sc es B):
  bB X d own sc (.Call (.Attribute o (ae name) p') es [] p) (AC X d name A B):=⟨fun c H m Q E h=>
 yO j k l n ((a.h c H m _ E h).mono fun x g i=>i.casesOn fun f q h=>⟨f,q,b.h c p g m _ E h⟩)⟩
theorem GM(a:bB X d own sc e A)(he:∀env,isTrue e env (eval e env)=(do let v <-eval e env;standAt e.pos;mx [v] (truthy v))):lA X d own sc e (Av A):=⟨fun env H m Q E h=>YP ((a.h env H m _ E h).mono fun x aaa zqz=>zqz.casesOn fun b e q=>⟨b,e,q⟩) (he env)⟩
theorem XT{A:WT}(a:lA X d own sc e A):lA X d own sc (.UnaryOp .Not e p) (FL A):=⟨fun b H m Q E h=>z6 (a.h b H m _ E h)⟩
theorem Xf(Ab:CX X){op:mE}{l r:Expr}(a:bB X d own sc l A)(b:bB X d own sc r B)(i:lb op r=false):lA X d own sc (.Compare l [op] [r] p) (Ap X op A B):=⟨fun c H m Q E h=>
 qu ((a.h c H m _ E h).mono fun x e h=>(b.h c e m _ E h).mono fun y g f=>f.casesOn fun k j q s t n o=>Sa Ab n o j ⟨k,rfl,q⟩) i⟩
structure RF(X:Cx)(d:Nat)(own:Bool)(sc:List (Str×ce))(op:BoolOp)(es:List Expr)(p:Pos)(W:WT):Prop where
 h:∀env w H m Q,fM sc env->W H m Q->ET X d H own env m (isTrue (.BoolOp op es p) env w) Eq Q
theorem OH:RF X d own sc .And [] p AI:=⟨fun a w H m Q E h=>Tj h⟩
theorem PG:RF X d own sc .Or [] p A7:=⟨fun a w H m Q E h=>U5 h⟩
theorem VB{A B:WT}(a:lA X d own sc e A)(b:RF X d own sc .And es p B):RF X d own sc .And (e::es) p (AP A B):=⟨fun f w H m Q E h=>
 pY ((a.h f H m _ E h).mono fun c g h=>by
  cases c with
  |true=>exact b.h f _ g m Q E h|false=>exact h)⟩
theorem Yc{A B:WT}(a:lA X d own sc e A)(b:RF X d own sc .Or es p B):RF X d own sc .Or (e::es) p (Bq A B):=⟨fun f w H m Q E h=>
 rA ((a.h f H m _ E h).mono fun c g h=>by
  cases c with
  |true=>exact h|false=>exact b.h f _ g m Q E h)⟩
theorem PR{op:BoolOp}{A:WT}(a:RF X d own sc op es p A):lA X d own sc (.BoolOp op es p) A:=⟨fun b H m Q E h=>a.h b _ H m Q E h⟩
theorem QW{n:Nat}:JS X H' (Oc l n H'):=fun A E Q s a q=>ua a.2 q
theorem Qc{n:Nat}:JS X H' (KS l n H'):=fun A E Q s a q=>DX a.2 q
theorem F7(a:bB X d own sc e A):lg X d own sc e (Au A):=⟨fun b H m Q E h=>
 n6 ((a.h b H m _ E h).mono fun v f c=>c.casesOn fun l g i e q=>⟨l,g,i,e,fun H'=>⟨_,_,gj.list,QI,q⟩⟩)⟩
theorem Yz(i:eB e=false)(j:sc.lookup x=some uj)(k:Ku X x (.typ "reversed"))(n:(x==("__debug__":Str))=false)(a:bB X d own sc e A):lg X d own sc (.Call (.Name x p') [e] [] p) (Nr A):=⟨fun b H m Q E h=>
 YN i (Z E.names j) k n ((a.h b H m _ E h).mono fun v f c=>AQ c fun l o r e=>⟨l,o,r,by
  rcases e with⟨e,q⟩|⟨e,g,q⟩
  ·exact .inl ⟨e,fun H'=>⟨_,_,gj.rev,QW,q⟩⟩
  ·exact .inr ⟨e,g,fun H'=>⟨_,_,gj.mL g,Qc,q⟩⟩⟩)⟩
theorem Ty(g:eB e=false)(i:sc.lookup x=some uj)(j:Ku X x (.typ "range"))(k:(x==("__debug__":Str))=false)(a:bB X d own sc e A):lg X d own sc (.Call (.Name x p') [e] [] p) (GT A):=⟨fun b H m Q E h=>
 U0 g (Z E.names i) j k ((a.h b H m _ E h).mono fun v f c=>Az c fun n l o q=>⟨n,l,o,fun H'=>⟨_,_,gj.range,Oj,q⟩⟩)⟩
noncomputable def AO(names sc:List (Str×ce)):List (Str×ce):=names.map fun(n,k)=>if(k==.free&&sc.lookup n==some .cell)then(n,.cell)else(n,k)
theorem TX{a:Scope}(E:fM sc env):(oj a env).names=AO a.names sc:=by
 refine Z CO ?_;unfold Dz AO;refine fz fun x b=>?_;obtain⟨n,c⟩:=x;have:env.kindOf n=sc.lookup n:=by refine Z (ap E.names) ?_;rfl
 simp only[E.kind,this];simp
theorem YJ{a:Scope}{b:List (Option Nat)}(h:Et a.names sc=b):Pf a sc m=b.map (Nm m):=by
 subst h;unfold Pf Et;refine Z f8 (fz fun x d=>?_);obtain⟨n,c⟩:=x;cases c<;>rfl
theorem cN.conv{a:Nat->V->U->List V->Option (List V)}{ok:U->Prop}{T:WT}{d:U->List V->(Bool->U->Prop)->Prop}{e:U->List V->(V->U->Prop)->Prop}{Q:List V->U->Prop}
  (l:∀H m Q,T H m Q->d H m Q) (n:∀H m Q,A H m Q->e H m Q) (o:∀{H m} {Q c:Bool->U->Prop},d H m Q->(∀b H,Q b H->c b H)->d H m c) (p:∀{H m} {Q c:V->U->Prop},e H m Q->(∀b H,Q b H->c b H)->e H m c) :
  ∀(M:List V) (k:Nat) (acc:List V) (H:U) (m:List V),cN a ok T A Q k acc M H m->cN a ok d e Q k acc M H m:=by
 intro q;induction q with
 |nil=>
  intro _ _ _ _ h;exact h
 |cons x M g=>
  intro k acc H m f;obtain⟨r,s,t,u⟩:=f;exact⟨r,s,t,o (l _ _ _ u) fun b i h=>by
    cases b with
    |true=>exact p (n _ _ _ h) fun y j h=>g _ _ _ _ h
    |false=>exact g _ _ _ _ h⟩
theorem iz.mono{a:List Expr}{Q Q':Bool->U->Prop}(h:iz X d own env a H m Q)(q:∀b H,Q b H->Q' b H):iz X d own env a H m Q':=by
 cases a with
 |nil=>exact q _ _ h|cons c e=>cases e with
  |nil=>exact ET.mono h q|cons _ _=>exact h.elim
def IY(X:Cx)(d:Nat)(own:Bool)(sc:List (Str×ce))(a:List Expr)(T:WT):Prop:=match a with
 |[]=>T=AI
 |[c]=>lA X d own sc c T
 |_=>False
inductive eH(own:Bool)(sc:List (Str×ce)):Expr->(Nat->V->U->List V->Option (List V))->Prop where
 |name {x:Str} {p:Pos} {i:Nat} {nk:ce}:sc[i]?=some (x,nk)->(nk=.local\/(nk=.cell/\own=true))->eH own sc (.Name x p) (AB i)
 |tup {es:List Expr} {k:Nat} {p:Pos} {is:List Nat}:(∀env,env.scope.names=sc->gR own env es is)->eH own sc (.Tuple es k p) (Bc is)
theorem eH.ok(h:eH own sc t bnd)(E:env.scope.names=sc):Pl X d own env t bnd:=by
 cases h with
 |name a b=>exact Qg (Z E a) b|tup c=>exact X8 (c env E)
theorem Ql{l:WI}{j:Nat->V->U->List V->Option (List V)}{T:WT}{f:List (Option Nat)}{n b g:Expr}{k:List Expr}{a:Scope}(t:a.kind=.function)(u:lg X d own sc g l)
  (v:eH false (AO a.names sc) b j) (o:IY X d false (AO a.names sc) k T) (w:bB X d false (AO a.names sc) n A) (x:Et a.names sc=f) (E:fM sc env) {Q:List V->U->Prop}
  (h:l H m fun items ok i=>items.length<=aT/\cN j ok T A Q 0 [] items i (f.map (Nm m))):IT X d H own env m (eval g env) (K8 X d env m n b k a Q):=
 (u.h env H m _ E h).mono fun s H' y i p=>AN p fun ok items W self z B=>⟨j,ok,items,W,self,z,fun cenv e=>by
  have r:fM (AO a.names sc) cenv:=⟨by refine Z e ?_;exact TX E,by refine Z e ?_;exact t⟩
  refine⟨v.ok r.names,(Z E.names (Z (YJ x) (cN.conv (fun H m Q h=>?_) (fun H m Q h=>w.h cenv H m Q r h) (fun h q=>h.mono q) (fun h q=>h.mono q) _ _ _ _ _ B)))⟩;cases k with
  |nil=>rw[show T=AI from o]at h;exact h
  |cons c C=>cases C with
   |nil=>exact lA.h o cenv H m Q r h|cons _ _=>exact o.elim⟩
theorem XC{f:WI}{g:Nat->V->U->List V->Option (List V)}{T:WT}{e:List (Option Nat)}{i b:Expr}{j:List Expr}{a:Scope}(Ab:eY a sc)(k:∀env x,d3 c env x=pure x)(l:lg X d own sc c f)
  (n:eH false (AO a.names sc) b g) (o:IY X d false (AO a.names sc) j T) (q:bB X d false (AO a.names sc) i A) (r:Et a.names sc=e) :
  bB X d own sc (.ListComp i [⟨b,c,j,0⟩] a p) (Bm f g T A e):=⟨fun env H m Q E h=>
 o5 (Z E.names Ab) (k env) (Ql Ab.kind l n o q r E h)⟩
theorem Xm:lB X d own sc [] AU:=⟨fun a H m Q E h=>Za h⟩
theorem YD{s:Stmt}{A:WS}(a:d9 X d own sc s A):lB X d own sc [s] A:=⟨fun b H m Q E h=>
 mX ((a.h b H m _ E h).mono fun fl c e h=>by
  cases fl with
  |next=>exact Za h|brk=>exact h|cont=>exact h|ret v=>exact h)⟩
theorem VH{s:Stmt}{c:List Stmt}{A B:WS}(a:d9 X d own sc s A)(b:lB X d own sc c B):lB X d own sc (s::c) (az A B):=⟨fun e H m Q E h=>
 mX ((a.h e H m _ E h).mono fun fl f g h=>by
  cases fl with
  |next=>exact b.h e f g Q E h|brk=>exact h|cont=>exact h|ret v=>exact h)⟩
theorem Q3{c:ce}{b:Expr}(f:sc[i]?=some (x,c))(g:c=.local\/(c=.cell/\own=true))(j:Cf b=false)(a:bB X d own sc b A):d9 X d own sc (.Assign [.Name x p'] b p) (Ar i A):=⟨fun e H m Q E h=>
 m9 (Z E.names f) g j (a.h e H m _ E h)⟩
theorem Vf{y:Str}{j:WI}{l:Nat->V->U->List V->Option (List V)}{T:WT}{e:List (Option Nat)}{f b:Expr}{g:List Expr}{a:Scope}(q:sc[i]?=some (y,uk))(Ab:eY a sc)(r:∀env x,d3 c env x=pure x)
  (s:(p'.line==aaj.line)=true) (t:(a.names.any fun(n,k)=>n==y&&(k==uk||k==.cell))=false) (u:lg X d own sc c j)
  (v:eH false (AO a.names sc) b l) (w:IY X d false (AO a.names sc) g T) (z:bB X d false (AO a.names sc) f A) (B:Et a.names sc=e) :
  d9 X d own sc (.Assign [.Name y p'] (.ListComp f [⟨b,c,g,0⟩] a aaj) p) (Ar i (Bm j l T A e)):=⟨fun env H m Q E h=>
 jV (Z E.names q) (Z E.names Ab) (r env) (fun C o=>by
  unfold swapsWith;have D:env.blockKind=.function:=by unfold Env.blockKind;refine Z C ?_;rfl
  have F:(Expr.ListComp f [⟨b,c,g,0⟩] a aaj).pos=aaj:=rfl;simp only[D,o,F,s,t];rfl) (Ql Ab.kind u v w z B E h)⟩
theorem W7(c:Cf e=false)(a:bB X d own sc e A):d9 X d own sc (.Expr e p) (wExpr A):=⟨fun b H m Q E h=>AaH E.oY c (a.h b H m _ E h)⟩
theorem X2(a:bB X d own sc e A):d9 X d own sc (.Return (some e) p) (AT A):=⟨fun b H m Q E h=>zF (a.h b H m _ E h)⟩
theorem vB{b o:List Stmt}{T:WT}{A B:WS}(f:lA X d own sc t T)(g:lB X d own sc b A)(i:lB X d own sc o B):d9 X d own sc (.If t b o p) (bj T A B):=⟨fun e H m Q E h=>
 rB ((f.h e H m _ E h).mono fun c a h=>by
  cases c with
  |true=>exact g.h e a m Q E h|false=>exact i.h e a m Q E h)⟩
theorem Pw(Ab:CX X){b:Expr}{a:At}{aj:WE}(j:Cf b=false)(k:bB X d own sc b aj)(l:bB X d own sc o A):d9 X d own sc (.Assign [.Attribute o a.s p'] b p) (Aq X a aj A):=⟨fun c H m Q E h=>
 Uh j Ab ((k.h c H m _ E h).mono fun x e h=>(l.h c e m _ E h).mono fun y i g=>g.casesOn fun x C f n r t q=>⟨x,C,f,n,r,t,q⟩)⟩
theorem Po(Ab:CX X){a:At}{aj:WE}(l:bB X d own sc c aj)(n:bB X d own sc o A):d9 X d own sc (.AugAssign (.Attribute o a.s p') .Add c p) (ER X a A aj):=⟨fun e H m Q E h=>
 Th Ab ((n.h e H m _ E h).mono fun b g j=>B6 j fun x C f q r t k=>Ad k fun i u h=>⟨x,C,f,q,r,t,i,u,l.h e g m _ E h⟩)⟩
theorem Qx{i a:Expr}{aj:WE}(g:Cf a=false)(j:bB X d own sc a aj)(k:bB X d own sc o A)(l:bB X d own sc i B):d9 X d own sc (.Assign [.Subscript o i p'] a p) (Iv aj A B):=⟨fun b H m Q E h=>
 Uw g ((j.h b H m _ E h).mono fun x c h=>(k.h b c m _ E h).mono fun y e h=>(l.h b e m _ E h).mono fun z f h s t u n q r=>Qh n q r h)⟩
variable{is:List Nat}
theorem RP{b:Expr}(T:∀env,env.scope.names=sc->gR own env es is)(f:Cf b=false)(g:notTuple b=true)(a:bB X d own sc b A):d9 X d own sc (.Assign [.Tuple es k p'] b p) (CR is A):=⟨fun env H m Q E h=>
 m6 (T env E.names) f g ((a.h env H m _ E h).mono fun y e c=>c.casesOn fun x i j l n q=>⟨x,i,j,l,n,q⟩)⟩
theorem V2{y:Str}{j:Nat}{n o q:Pos}{e₁ e₂:Expr}(r:sc[i]?=some (x,uk))(s:sc[j]?=some (y,uk))(f:i≠j)(t:(o.line==n.line)=true)
  (u:eB e₁=false) (g:eB e₂=false) (v:([e₁,e₂].all (qc 8))=false) (l:([e₁,e₂].all (oT 8))=false) (a:bB X d own sc e₁ A) (b:bB X d own sc e₂ B) :
  d9 X d own sc (.Assign [.Tuple [.Name x n,.Name y o] k p'] (.Tuple [e₁,e₂] k' q) p) (Dn i j A B):=⟨fun c H m Q E h=>
 nO (pv:=p) (Z E.names r) (Z E.names s) f t u g v l ((a.h c H m _ E h).mono fun x e h=>b.h c e m _ E h)⟩
theorem TT{b:List Stmt}{T:WT}{B:WS}(g:lA X d own sc t T)(i:lB X d own sc b B):d9 X d own sc (.While t b [] p) (DC T B):=⟨fun a H m Q E f=>AQ f fun H' n j h=>
 Ym H' n j fun n H m k=>(g.h a H m _ E (h n H m k)).mono fun c e h=>by
  cases c with
  |true=>exact i.h a e m _ E h|false=>exact h⟩
theorem forL.conv{a:Nat->V->U->List V->Option (List V)}{ok:U->Prop}{B c:WS}{Q:bu->U->List V->Prop}(j:∀H m Q,B H m Q->c H m Q)(l:∀{H m} {Q e:bu->U->List V->Prop},c H m Q->(∀b H m,Q b H m->e b H m)->c H m e):
  ∀(M:List V) (k:Nat) (H:U) (m:List V),forL a ok B Q k M H m->forL a ok c Q k M H m:=by
 intro n;induction n with
 |nil=>
  intro _ _ _ h;exact h
 |cons x M f=>
  intro k H m d;obtain⟨o,p,q,r⟩:=d;exact⟨o,p,q,l (j _ _ _ r) fun fl g i h=>by
    cases fl with
    |next=>exact f _ _ _ h|cont=>exact f _ _ _ h|brk=>exact h|ret v=>exact h⟩
theorem X9{a:Expr}{b:List Stmt}{g:WI}{e:Nat->V->U->List V->Option (List V)}{B:WS}(l:∀env x,d3 c env x=pure x)(n:lg X d own sc c g)(o:eH own sc a e)(r:lB X d own sc b B):
  d9 X d own sc (.For a c b [] p) (CG g e B):=⟨fun env H m Q E h=>
 nj (l env) ((n.h env H m _ E h).mono fun j H' s k i=>Ay i fun ok f W z q=>⟨e,ok,f,W.iter (o.ok E.names),forL.conv (fun H m Q h=>r.h env H m Q E h) (fun h q=>h.mono q) _ _ _ _ q⟩)⟩
theorem UH{f:Str}{b:List Stmt}{B:WS}(i:∀env x,d3 (.Call (.Name f aaj) [e] [] aat) env x=pure x)(j:eB e=false)(n:sc.lookup f=some uj)(o:Ku X f (.typ "enumerate"))(r:(f==("__debug__":Str))=false)
  (T:∀env,env.scope.names=sc->gR own env es is) (s:is.length=2) (a:bB X d own sc e A) (t:lB X d own sc b B) :
  d9 X d own sc (.For (.Tuple es k p') (.Call (.Name f aaj) [e] [] aat) b [] p) (CP A is B):=⟨fun env H m Q E h=>
 nj (i env) (YY j (Z E.names n) o r ((a.h env H m _ E h).mono fun v g c=>c.casesOn fun l u w e q=>⟨l,u,w,e,fun H' y=>⟨_,_,_,lz.enum (T env E.names) s,forL.conv (fun H m Q h=>t.h env H m Q E h) (fun h q=>h.mono q) _ _ _ _ q⟩⟩))⟩
theorem Qf{c:ce}{b:List Stmt}{B:WS}(j:∀env x,d3 e env x=pure x)(k:sc[i]?=some (x,c))(l:c=.local\/(c=.cell/\own=true))(a:bB X d own sc e A)(n:lB X d own sc b B):
  d9 X d own sc (.For (.Name x p') e b [] p) (IA A i B):=⟨fun env H m Q E h=>
 nj (j env) (Yu ((a.h env H m _ E h).mono fun v g f=>Br f fun D es o r e q=>⟨D,es,o,r,e,fun H'=>⟨_,_,_,gj.dict.iter (Qg (Z E.names k) l),forL.conv (fun H m Q h=>n.h env H m Q E h) (fun h q=>h.mono q) _ _ _ _ q⟩⟩))⟩
def J2(own:Bool)(sc:List (Str×ce))(es:List Expr)(is:List Nat):Prop:=∀a,a.scope.names=sc->gR own a es is
theorem VU:J2 own sc [] []:=fun a E=>.nil
theorem Uk{a:ce}(c:sc[i]?=some (x,a))(d:a=.local\/(a=.cell/\own=true))(h:J2 own sc es is):J2 own sc (.Name x p::es) (i::is):=
 fun b E=>.cons (Z E c) d (h b E)
theorem Qb{a:ce}(b:sc[i]?=some (x,a))(c:a=.local\/(a=.cell/\own=true)):eH own sc (.Name x p) (AB i):=.name b c
theorem Rf(h:J2 own sc es is):eH own sc (.Tuple es k p) (Bc is):=.tup h
theorem X3:IY X d own sc [] AI:=rfl
theorem YR{T:WT}(h:lA X d own sc c T):IY X d own sc [c] T:=h
end
end Mine.Lake
end
section
open PySem PySem.W PySem.Calls PyProof.Rows
set_option tactic.hygienic false
namespace Mine.Lake
def FU:Bf:=Bk ["self","kind","line","parts"] []
def IO:WX:=fun X d G=>az (Aq X .parts (O 3) (O 0)) (Aq X .scope (Ae .none) (O 0))
def I7:WX:=fun X d G=>az (Aq X .line (O 2) (O 0)) (IO X d G)
def FM:WX:=fun X d G=>az (Aq X .kind (O 1) (O 0)) (I7 X d G)
def Lp:Bf:=Bk ["part","found","waiting","here","one"] ["len","isinstance","Node","list","tuple","reversed"]
def OV:WX:=fun X d G=>CG (Nr (O 3)) (AB 4) (wExpr (AC X d "append" (O 2) (Ac (O 4) Ag)))
def N5:WX:=fun X d G=>bj (Av (Ai X d (G "isinstance") (Ac (O 3) (Ac (Bg (Ac (Ae (G "list")) (Ac (Ae (G "tuple")) Ag))) Ag)))) (OV X d G) AU
def CN:WX:=fun X d G=>bj (Av (Ai X d (G "isinstance") (Ac (O 3) (Ac (Ae (G "Node")) Ag)))) (wExpr (AC X d "append" (O 1) (Ac (O 3) Ag))) (N5 X d G)
def O3:WX:=fun X d G=>az (Ar 3 (AC X d "pop" (O 2) Ag)) (CN X d G)
def OF:WX:=fun X d G=>az (DC (Ap X .Gt (Ai X d (G "len") (Ac (O 2) Ag)) (Ae (.int 0))) (O3 X d G)) (AT (O 1))
def Lq:WX:=fun X d G=>az (Dn 1 2 (AF Ag) (AF (Ac (O 0) Ag))) (OF X d G)
def G3:Bf:=Bk ["node"] ["nodes_of"]
def G6:WX:=fun X d G=>AT (Ai X d (G "nodes_of") (Ac (Aj X .parts (O 0)) Ag))
def Kh:Bf:=Bk ["body","found","waiting","here"] ["nodes_of","len","inner_nodes"]
def MU:WX:=fun X d G=>wExpr (AC X d "extend" (O 2) (Ac (Ct (Ai X d (G "inner_nodes") (Ac (O 3) Ag))) Ag))
def M8:WX:=fun X d G=>bj (Ap X .NotEq (Aj X .kind (O 3)) (Ae (.str "Function"))) (MU X d G) AU
def M3:WX:=fun X d G=>az (wExpr (AC X d "append" (O 1) (Ac (O 3) Ag))) (M8 X d G)
def MY:WX:=fun X d G=>az (Ar 3 (AC X d "pop" (O 2) Ag)) (M3 X d G)
def Nh:WX:=fun X d G=>az (DC (Ap X .Gt (Ai X d (G "len") (Ac (O 2) Ag)) (Ae (.int 0))) (MY X d G)) (AT (O 1))
def JU:WX:=fun X d G=>az (Dn 1 2 (AF Ag) (Ct (Ai X d (G "nodes_of") (Ac (O 0) Ag)))) (Nh X d G)
def LC:Bf:=Bk ["names","name"] []
def Mm:WX:=fun X d G=>bj (Ap X .NotIn (O 1) (O 0)) (wExpr (AC X d "append" (O 0) (Ac (O 1) Ag))) AU
def JY:Bf:=Bk ["body","found","node","name","init"] ["own_nodes","add_once"]
def MZ:WX:=fun X d G=>wExpr (Ai X d (G "add_once") (Ac (O 1) (Ac (O 3) Ag)))
def M4:WX:=fun X d G=>CG (Au (Ax (Aj X .parts (O 2)) (Ae (.int 0)))) (Bc [3,4]) (MZ X d G)
def Nd:WX:=fun X d G=>bj (Ap X .Eq (Aj X .kind (O 2)) (Ae (.str "Var"))) (M4 X d G) AU
def M5:WX:=fun X d G=>az (CG (Au (Ai X d (G "own_nodes") (Ac (O 0) Ag))) (AB 2) (Nd X d G)) (AT (O 1))
def J3:WX:=fun X d G=>az (Ar 1 (AF Ag)) (M5 X d G)
def EQ:Bf:=Bk ["body"] []
def EV:WX:=fun X d G=>AT (Bm (Au (O 0)) (AB 1) (AP (Ap X .Eq (Aj X .kind (O 1)) (Ae (.str "Function"))) (AP (Ap X .Eq (Ax (Aj X .parts (O 1)) (Ae (.int 4))) (Ae (.str "decl"))) AI)) (O 1) [none,none])
def Jc:Bf:=Bk ["body","found","left","at","node"] ["function_decls","enumerate"]
def ML:WX:=fun X d G=>bj (Ap X .NotIn (Ax (Aj X .parts (O 4)) (Ae (.int 0))) (Bm (Au (K1 (O 1) (A1 .Add (O 3) (Ae (.int 1))))) (AB 1) AI (Ax (Aj X .parts (O 1)) (Ae (.int 0))) [none,none])) (wExpr (AC X d "append" (O 2) (Ac (O 4) Ag))) AU
def MN:WX:=fun X d G=>az (CP (O 1) [3,4] (ML X d G)) (AT (O 2))
def LP:WX:=fun X d G=>az (Ar 2 (AF Ag)) (MN X d G)
def IB:WX:=fun X d G=>az (Ar 1 (Ai X d (G "function_decls") (Ac (O 0) Ag))) (LP X d G)
noncomputable def MC:List (Str×ce):=[(ae "body",uk),(ae "name",.cell),(ae "any",uj),(ae "own_nodes",uj)]
def LT:WX:=fun X d G=>AT (Ai X d (G "any") (Ac (Bm (Au (Ai X d (G "own_nodes") (Ac (O 0) Ag))) (AB 1) AI (IE (Cu X .Eq (Aj X .kind (O 1)) (Ae (.str "Name"))) (Cu X .Eq (Ax (Aj X .parts (O 1)) (Ae (.int 0))) (O 2))) [none,none,some 1]) Ag))
def En:Bf:=Bk ["params","body"] ["function_decls","named_in","var_names"]
def GY:WX:=fun X d G=>AT (pN (Ai X d (G "named_in") (Ac (O 1) (Ac (Ae (.str "arguments")) Ag))) (Cu X .In (Ae (.str "arguments")) (Ai X d (G "var_names") (Ac (O 1) Ag))))
def DY:WX:=fun X d G=>az (bj (Bq (Ap X .In (Ae (.str "arguments")) (O 0)) (Bq (Ap X .In (Ae (.str "arguments")) (Bm (Au (Ai X d (G "function_decls") (Ac (O 1) Ag))) (AB 1) AI (Ax (Aj X .parts (O 1)) (Ae (.int 0))) [none,none])) A7)) (AT (Ae (.bool false))) AU) (GY X d G)
def FP:Bf:=Bk ["params","body","found","name","node"] ["add_once","function_decls","needs_arguments","var_names"]
def IR:WX:=fun X d G=>wExpr (Ai X d (G "add_once") (Ac (O 2) (Ac (O 3) Ag)))
def Il:WX:=fun X d G=>wExpr (Ai X d (G "add_once") (Ac (O 2) (Ac (Ax (Aj X .parts (O 4)) (Ae (.int 0))) Ag)))
def Jj:WX:=fun X d G=>wExpr (Ai X d (G "add_once") (Ac (O 2) (Ac (Ae (.str "arguments")) Ag)))
def I6:WX:=fun X d G=>wExpr (Ai X d (G "add_once") (Ac (O 2) (Ac (O 3) Ag)))
def D9:WX:=fun X d G=>az (CG (Au (Ai X d (G "var_names") (Ac (O 1) Ag))) (AB 3) (I6 X d G)) (AT (O 2))
def Jf:WX:=fun X d G=>az (bj (Av (Ai X d (G "needs_arguments") (Ac (O 0) (Ac (O 1) Ag)))) (Jj X d G) AU) (D9 X d G)
def Jk:WX:=fun X d G=>az (CG (Au (Ai X d (G "function_decls") (Ac (O 1) Ag))) (AB 4) (Il X d G)) (Jf X d G)
def IS:WX:=fun X d G=>az (CG (Au (O 0)) (AB 3) (IR X d G)) (Jk X d G)
def FT:WX:=fun X d G=>az (Ar 2 (AF Ag)) (IS X d G)
def DJ:Bf:=Bk ["self","name","sort"] []
def Gh:WX:=fun X d G=>az (Aq X .cB (Ae (.bool false)) (O 0)) (Aq X .place (Ae .none) (O 0))
def Gi:WX:=fun X d G=>az (Aq X .sort (O 2) (O 0)) (Gh X d G)
def DM:WX:=fun X d G=>az (Aq X .name (O 1) (O 0)) (Gi X d G)
def EO:Bf:=Bk ["self","node","parent","name"] ["list","last_decls","var_names","add_once","needs_arguments"]
def L8:WX:=fun X d G=>wExpr (Ai X d (G "add_once") (Ac (Aj X .aF (O 0)) (Ac (O 3) Ag)))
def Dm:WX:=fun X d G=>bj (FL (Av (Aj X .bN (O 0)))) (wExpr (AC X d "declare" (O 0) Ag)) AU
def Ky:WX:=fun X d G=>az (Aq X .aA (AF Ag) (O 0)) (Dm X d G)
def Kv:WX:=fun X d G=>az (Aq X .bQ (Ae (.int 0)) (O 0)) (Ky X d G)
def KH:WX:=fun X d G=>az (Aq X .bD (Ae (.int 0)) (O 0)) (Kv X d G)
def Kx:WX:=fun X d G=>az (Aq X .aP (AF Ag) (O 0)) (KH X d G)
def KC:WX:=fun X d G=>az (Aq X .aJ (AF Ag) (O 0)) (Kx X d G)
def KA:WX:=fun X d G=>az (Aq X .aN (AF Ag) (O 0)) (KC X d G)
def KG:WX:=fun X d G=>az (Aq X .aL (AF Ag) (O 0)) (KA X d G)
def KJ:WX:=fun X d G=>az (Aq X .aH (Ae .none) (O 0)) (KG X d G)
def Ep:WX:=fun X d G=>az (Aq X .own Q9 (O 0)) (KJ X d G)
def G7:WX:=fun X d G=>az (Aq X .aR (IE (YM (Aj X .bN (O 0))) (Ai X d (G "needs_arguments") (Ac (Aj X .params (O 0)) (Ac (Aj X .body (O 0)) Ag)))) (O 0)) (Ep X d G)
def Lk:WX:=fun X d G=>az (CG (Au (A1 .Add (Bm (Au (Aj X .aM (O 0))) (AB 1) AI (Ax (Aj X .parts (O 1)) (Ae (.int 0))) [none,none]) (Ai X d (G "var_names") (Ac (Aj X .body (O 0)) Ag)))) (AB 3) (L8 X d G)) (G7 X d G)
def Ll:WX:=fun X d G=>az (Aq X .aF (AF Ag) (O 0)) (Lk X d G)
def I0:WX:=fun X d G=>az (Aq X .aM (Ai X d (G "last_decls") (Ac (Aj X .body (O 0)) Ag)) (O 0)) (Ll X d G)
def Hr:WX:=fun X d G=>az (Aq X .d8 (je (Av (Aj X .bN (O 0))) (Ax (Aj X .parts (O 1)) (Ae (.int 1))) (Ax (Aj X .parts (O 1)) (Ae (.int 3)))) (O 0)) (I0 X d G)
def Hs:WX:=fun X d G=>az (Aq X .body (je (Av (Aj X .bN (O 0))) (Ax (Aj X .parts (O 1)) (Ae (.int 0))) (Ax (Aj X .parts (O 1)) (Ae (.int 2)))) (O 0)) (Hr X d G)
def HI:WX:=fun X d G=>az (Aq X .params (je (Av (Aj X .bN (O 0))) (AF Ag) (Ai X d (G "list") (Ac (Ax (Aj X .parts (O 1)) (Ae (.int 1))) Ag))) (O 0)) (Hs X d G)
def Hz:WX:=fun X d G=>az (Aq X .sort (je (Av (Aj X .bN (O 0))) (Ae (.str "program")) (Ae (.str "function"))) (O 0)) (HI X d G)
def HA:WX:=fun X d G=>az (Aq X .bN (Cu X .Eq (Aj X .kind (O 1)) (Ae (.str "Program"))) (O 0)) (Hz X d G)
def Hq:WX:=fun X d G=>az (Aq X .parent (O 2) (O 0)) (HA X d G)
def EC:WX:=fun X d G=>az (Aq X .node (O 1) (O 0)) (Hq X d G)
def FY:Bf:=Bk ["self","name","sort"] ["binding_names","Binding"]
def Jb:WX:=fun X d G=>Iv (Ai X d (G "Binding") (Ac (O 1) (Ac (Ae (.str "own")) Ag))) (Aj X .own (O 0)) (O 1)
def IV:WX:=fun X d G=>Aq X .aH (Ai X d (G "Binding") (Ac (O 1) (Ac (Ae (.str "self")) Ag))) (O 0)
def Iq:WX:=fun X d G=>bj (AP (Ap X .Eq (O 2) (Ae (.str "expr"))) (AP (Ap X .IsNot (O 1) (Ae .none)) (AP (Ap X .NotIn (O 1) (Aj X .own (O 0))) AI))) (IV X d G) AU
def Ec:WX:=fun X d G=>az (Dn 1 2 (Ax (Aj X .parts (Aj X .node (O 0))) (Ae (.int 0))) (Ax (Aj X .parts (Aj X .node (O 0))) (Ae (.int 4)))) (Iq X d G)
def FW:WX:=fun X d G=>az (CG (Au (Ai X d (G "binding_names") (Ac (Aj X .params (O 0)) (Ac (Aj X .body (O 0)) Ag)))) (AB 1) (Jb X d G)) (Ec X d G)
def EY:Bf:=Bk ["self"] []
def EI:WX:=fun X d G=>AT (O 0)
def FQ:Bf:=Bk ["self","name"] []
def It:WX:=fun X d G=>az (bj (AP (Ap X .IsNot (Aj X .aH (O 0)) (Ae .none)) (AP (Ap X .Eq (Aj X .name (Aj X .aH (O 0))) (O 1)) AI)) (AT (Aj X .aH (O 0))) AU) (AT (Ae .none))
def FF:WX:=fun X d G=>az (bj (Ap X .In (O 1) (Aj X .own (O 0))) (AT (Ax (Aj X .own (O 0)) (O 1))) AU) (It X d G)
def HU:Bf:=Bk ["self","name"] ["place_of"]
def I1:WX:=fun X d G=>AT (Ai X d (G "place_of") (Ac (O 0) (Ac (O 1) Ag)))
def Dq:Bf:=Bk ["self","name","binding"] ["look_up"]
def F3:WX:=fun X d G=>AT (IE (Cu X .IsNot (O 2) (Ae .none)) (Cu X .Eq (Aj X .sort (O 2)) (Ae (.str "self"))))
def Dp:WX:=fun X d G=>az (Ar 2 (Ax (Ai X d (G "look_up") (Ac (O 0) (Ac (O 1) Ag))) (Ae (.int 0)))) (F3 X d G)
def CY:Bf:=Bk ["self","node","parent"] ["Binding"]
def E4:WX:=fun X d G=>Aq X .cU (Ai X d (G "Binding") (Ac (Aj X .name (O 0)) (Ac (Ae (.str "catch")) Ag))) (O 0)
def EP:WX:=fun X d G=>az (Aq X .name (Ax (Aj X .parts (O 1)) (Ae (.int 1))) (O 0)) (E4 X d G)
def EG:WX:=fun X d G=>az (Aq X .sort (Ae (.str "catch")) (O 0)) (EP X d G)
def EB:WX:=fun X d G=>az (Aq X .parent (O 2) (O 0)) (EG X d G)
def CZ:WX:=fun X d G=>az (Aq X .node (O 1) (O 0)) (EB X d G)
def C4:Bf:=Bk ["self"] []
def C3:WX:=fun X d G=>AT (AC X d "function" (Aj X .parent (O 0)) Ag)
def Df:Bf:=Bk ["self","name"] []
def De:WX:=fun X d G=>AT (je (Ap X .Eq (O 1) (Aj X .name (O 0))) (Aj X .cU (O 0)) (Ae .none))
def Ei:Bf:=Bk ["self","name"] ["place_of"]
def Em:WX:=fun X d G=>AT (Ai X d (G "place_of") (Ac (O 0) (Ac (O 1) Ag)))
def Cn:Bf:=Bk ["self","name","binding"] ["look_up"]
def DD:WX:=fun X d G=>AT (IE (Cu X .IsNot (O 2) (Ae .none)) (Cu X .Eq (Aj X .sort (O 2)) (Ae (.str "self"))))
def Cm:WX:=fun X d G=>az (Ar 2 (Ax (Ai X d (G "look_up") (Ac (O 0) (Ac (O 1) Ag))) (Ae (.int 0)))) (DD X d G)
def Nw:Bf:=Bk ["view","name","passed","found"] ["isinstance","Scope"]
def Qw:WX:=fun X d G=>az (bj (Av (Ai X d (G "isinstance") (Ac (O 0) (Ac (Ae (G "Scope")) Ag)))) (wExpr (AC X d "append" (O 2) (Ac (O 0) Ag))) AU) (Ar 0 (Aj X .parent (O 0)))
def Pr:WX:=fun X d G=>az (bj (Ap X .IsNot (O 3) (Ae .none)) (AT (Bg (Ac (O 3) (Ac (O 2) Ag)))) AU) (Qw X d G)
def Qm:WX:=fun X d G=>az (Ar 3 (AC X d "binding" (O 0) (Ac (O 1) Ag))) (Pr X d G)
def Qi:WX:=fun X d G=>az (DC (Ap X .IsNot (O 0) (Ae .none)) (Qm X d G)) (AT (Bg (Ac (Ae .none) (Ac (O 2) Ag))))
def Nl:WX:=fun X d G=>az (Ar 2 (AF Ag)) (Qi X d G)
def MJ:Bf:=Bk ["view","name","binding","passed","at","other"] ["look_up","len","enumerate"]
def Ot:WX:=fun X d G=>AT (Bg (Ac (Ae (.str "global")) (Ac (O 1) Ag)))
def Ol:WX:=fun X d G=>AT (Bg (Ac (Ae (.str "up")) (Ac (O 4) Ag)))
def Od:WX:=fun X d G=>bj (Ap X .Is (O 5) (O 2)) (Ol X d G) AU
def OC:WX:=fun X d G=>az (CP (Aj X .aP (Ax (O 3) (Ae (.int 0)))) [4,5] (Od X d G)) (AT (Ae .none))
def On:WX:=fun X d G=>az (bj (Ap X .Eq (Ai X d (G "len") (Ac (O 3) Ag)) (Ae (.int 0))) (AT (Aj X .place (O 2))) AU) (OC X d G)
def OB:WX:=fun X d G=>az (bj (Ap X .Is (O 2) (Ae .none)) (Ot X d G) AU) (On X d G)
def LX:WX:=fun X d G=>az (CR [2,3] (Ai X d (G "look_up") (Ac (O 0) (Ac (O 1) Ag)))) (OB X d G)
noncomputable def IC:List (Str×ce):=[(ae "root",.cell),(ae "uses",uk),(ae "node",uk),(ae "waiting",uk),(ae "view",.cell),(ae "child",.cell),(ae "caught",.cell),(ae "nodes_of",uj),(ae "len",uj),(ae "Scope",uj),(ae "CatchScope",uj),(ae "inner_nodes",uj)]
def LE:WX:=fun X d G=>wExpr (AC X d "append" (O 1) (Ac (Bg (Ac (O 4) (Ac (Ax (Aj X .parts (O 2)) (Ae (.int 0))) Ag))) Ag))
def MO:WX:=fun X d G=>wExpr (AC X d "extend" (O 1) (Ac (Bm (Au (Ax (Aj X .parts (O 2)) (Ae (.int 0)))) (Bc [1,2]) AI (Bg (Ac (O 3) (Ac (O 1) Ag))) [none,none,none,some 4]) Ag))
def MF:WX:=fun X d G=>bj (Ap X .Eq (Aj X .kind (O 2)) (Ae (.str "Var"))) (MO X d G) AU
def WM:WX:=fun X d G=>wExpr (AC X d "extend" (O 3) (Ac (Bm (Au (Ct (Ai X d (G "nodes_of") (Ac (Aj X .body (O 5)) Ag)))) (AB 1) AI (Bg (Ac (O 1) (Ac (O 2) Ag))) [none,none,some 5]) Ag))
def Vk:WX:=fun X d G=>az (wExpr (AC X d "append" (Aj X .aL (AC X d "function" (O 4) Ag)) (Ac (O 5) Ag))) (WM X d G)
def U6:WX:=fun X d G=>az (Aq X .scope (O 5) (O 2)) (Vk X d G)
def UD:WX:=fun X d G=>az (Ar 5 (Ai X d (G "Scope") (Ac (O 2) (Ac (O 4) Ag)))) (U6 X d G)
def Um:WX:=fun X d G=>wExpr (AC X d "extend" (O 3) (Ac (Bm (Au (Ct (Ai X d (G "nodes_of") (Ac (Ax (Aj X .parts (O 2)) (Ae (.int 0))) Ag)))) (AB 1) AI (Bg (Ac (O 1) (Ac (O 2) Ag))) [none,none,some 4]) Ag))
def T6:WX:=fun X d G=>az (wExpr (AC X d "extend" (O 3) (Ac (Bm (Au (Ct (Ai X d (G "nodes_of") (Ac (Ax (Aj X .parts (O 2)) (Ae (.int 2))) Ag)))) (AB 1) AI (Bg (Ac (O 1) (Ac (O 2) Ag))) [none,none,some 6]) Ag))) (Um X d G)
def Wq:WX:=fun X d G=>az (wExpr (AC X d "extend" (O 3) (Ac (Bm (Au (Ct (Ai X d (G "nodes_of") (Ac (Ax (Aj X .parts (O 2)) (Ae (.int 3))) Ag)))) (AB 1) AI (Bg (Ac (O 1) (Ac (O 2) Ag))) [none,none,some 4]) Ag))) (T6 X d G)
def Vw:WX:=fun X d G=>az (wExpr (AC X d "append" (Aj X .aN (AC X d "function" (O 4) Ag)) (Ac (O 6) Ag))) (Wq X d G)
def VF:WX:=fun X d G=>az (Aq X .scope (O 6) (O 2)) (Vw X d G)
def VA:WX:=fun X d G=>az (Ar 6 (Ai X d (G "CatchScope") (Ac (O 2) (Ac (O 4) Ag)))) (VF X d G)
def TK:WX:=fun X d G=>wExpr (AC X d "extend" (O 3) (Ac (Bm (Au (Ct (Ai X d (G "inner_nodes") (Ac (O 2) Ag)))) (AB 1) AI (Bg (Ac (O 1) (Ac (O 2) Ag))) [none,none,some 4]) Ag))
def UC:WX:=fun X d G=>bj (AP (Ap X .Eq (Aj X .kind (O 2)) (Ae (.str "Try"))) (AP (Ap X .IsNot (Ax (Aj X .parts (O 2)) (Ae (.int 1))) (Ae .none)) AI)) (VA X d G) (TK X d G)
def JR:WX:=fun X d G=>bj (Ap X .Eq (Aj X .kind (O 2)) (Ae (.str "Function"))) (UD X d G) (UC X d G)
def Gd:WX:=fun X d G=>az (bj (Ap X .Eq (Aj X .kind (O 2)) (Ae (.str "Name"))) (LE X d G) (MF X d G)) (JR X d G)
def Gg:WX:=fun X d G=>az (CR [2,4] (AC X d "pop" (O 3) Ag)) (Gd X d G)
def L0:WX:=fun X d G=>az (DC (Ap X .Gt (Ai X d (G "len") (Ac (O 3) Ag)) (Ae (.int 0))) (Gg X d G)) (AT (O 1))
def LL:WX:=fun X d G=>az (Ar 3 (Bm (Au (Ct (Ai X d (G "nodes_of") (Ac (Aj X .body (O 0)) Ag)))) (AB 1) AI (Bg (Ac (O 1) (Ac (O 2) Ag))) [none,none,some 0])) (L0 X d G)
def Io:WX:=fun X d G=>az (Ar 1 (AF Ag)) (LL X d G)
def Ja:Bf:=Bk ["root","found","waiting","here"] ["len"]
def La:WX:=fun X d G=>wExpr (AC X d "extend" (O 2) (Ac (Ct (Aj X .aL (O 3))) Ag))
def LZ:WX:=fun X d G=>az (wExpr (AC X d "append" (O 1) (Ac (O 3) Ag))) (La X d G)
def Lu:WX:=fun X d G=>az (Ar 3 (AC X d "pop" (O 2) Ag)) (LZ X d G)
def Lx:WX:=fun X d G=>az (DC (Ap X .Gt (Ai X d (G "len") (Ac (O 2) Ag)) (Ae (.int 0))) (Lu X d G)) (AT (O 1))
def Jm:WX:=fun X d G=>az (Dn 1 2 (AF Ag) (AF (Ac (O 0) Ag))) (Lx X d G)
def FX:Bf:=Bk ["uses","scopes","view","name","binding","passed","scope"] ["look_up","len"]
def HW:WX:=fun X d G=>bj (AP (Ap X .IsNot (O 4) (Ae .none)) (AP (Ap X .Gt (Ai X d (G "len") (Ac (O 5) Ag)) (Ae (.int 0))) AI)) (Aq X .cB (Ae (.bool true)) (O 4)) AU
def D8:WX:=fun X d G=>az (CR [4,5] (Ai X d (G "look_up") (Ac (O 2) (Ac (O 3) Ag)))) (HW X d G)
def Ej:WX:=fun X d G=>Aq X .cB (Ae (.bool true)) (Ax (Aj X .own (O 6)) (O 3))
def IJ:WX:=fun X d G=>CG (Au (Aj X .params (O 6))) (AB 3) (Ej X d G)
def Im:WX:=fun X d G=>bj (AP (Av (Aj X .aR (O 6))) (AP (FL (Av (Aj X .d8 (O 6)))) AI)) (IJ X d G) AU
def IG:WX:=fun X d G=>CG (Au (O 1)) (AB 6) (Im X d G)
def FR:WX:=fun X d G=>az (CG (Au (O 0)) (Bc [2,3]) (D8 X d G)) (IG X d G)
def Go:Bf:=Bk ["scope","uses","view","name"] ["look_up"]
def Jn:WX:=fun X d G=>bj (AP (Ap X .Eq (O 3) (Aj X .name (Aj X .aH (O 0)))) (AP (Ap X .Is (Ax (Ai X d (G "look_up") (Ac (O 2) (Ac (O 3) Ag))) (Ae (.int 0))) (Aj X .aH (O 0))) AI)) (AT (Ae (.bool true))) AU
def Gn:WX:=fun X d G=>az (CG (Au (O 1)) (Bc [2,3]) (Jn X d G)) (AT (Ae (.bool false)))
def HV:Bf:=Bk ["scope","binding"] []
def Lw:WX:=fun X d G=>az (Aq X .place (Bg (Ac (Ae (.str "cell")) (Ac (Aj X .bQ (O 0)) Ag))) (O 1)) (ER X .bQ (O 0) (Ae (.int 1)))
def Ly:WX:=fun X d G=>az (Aq X .place (Bg (Ac (Ae (.str "local")) (Ac (Aj X .bD (O 0)) Ag))) (O 1)) (ER X .bD (O 0) (Ae (.int 1)))
def Ih:WX:=fun X d G=>bj (Av (Aj X .cB (O 1))) (Lw X d G) (Ly X d G)
def Hj:Bf:=Bk ["scope","uses","name","caught"] ["give_place","is_self_used"]
def KI:WX:=fun X d G=>wExpr (Ai X d (G "give_place") (Ac (O 0) (Ac (Ax (Aj X .own (O 0)) (O 2)) Ag)))
def KK:WX:=fun X d G=>wExpr (Ai X d (G "give_place") (Ac (O 0) (Ac (Aj X .aH (O 0)) Ag)))
def WQ:WX:=fun X d G=>wExpr (Ai X d (G "give_place") (Ac (O 0) (Ac (Aj X .cU (O 3)) Ag)))
def VG:WX:=fun X d G=>wExpr (AC X d "append" (Aj X .aA (O 0)) (Ac (Aj X .place (Ax (Aj X .own (O 0)) (O 2))) Ag))
def QH:WX:=fun X d G=>CG (Au (Aj X .params (O 0))) (AB 2) (VG X d G)
def Re:WX:=fun X d G=>az (CG (Au (Aj X .aN (O 0))) (AB 3) (WQ X d G)) (QH X d G)
def Kw:WX:=fun X d G=>az (bj (AP (Ap X .IsNot (Aj X .aH (O 0)) (Ae .none)) (AP (Av (Ai X d (G "is_self_used") (Ac (O 0) (Ac (O 1) Ag)))) AI)) (KK X d G) AU) (Re X d G)
def Hl:WX:=fun X d G=>az (IA (Aj X .own (O 0)) 2 (KI X d G)) (Kw X d G)
def G8:Bf:=Bk ["some","thing","at","one"] ["enumerate"]
def Ha:WX:=fun X d G=>az (CP (O 0) [2,3] (bj (Ap X .Is (O 3) (O 1)) (AT (O 2)) AU)) (AT (XD (Ae (.int 1))))
def NF:Bf:=Bk ["binding","passed","is_first","ahead","scope","at"] ["reversed","index_among","len"]
def Qd:WX:=fun X d G=>wExpr (AC X d "append" (Aj X .aJ (O 4)) (Ac (je (Av (O 2)) (Bg (Ac (Ae (.bool true)) (Ac (Ax (Aj X .place (O 0)) (Ae (.int 1))) Ag))) (Bg (Ac (Ae (.bool false)) (Ac (O 3) Ag)))) Ag))
def Pn:WX:=fun X d G=>az (wExpr (AC X d "append" (Aj X .aP (O 4)) (Ac (O 0) Ag))) (Qd X d G)
def Kb:WX:=fun X d G=>az (Ar 5 (Ai X d (G "len") (Ac (Aj X .aP (O 4)) Ag))) (Pn X d G)
def QT:WX:=fun X d G=>az (Ar 2 (Ae (.bool false))) (Ar 3 (O 5))
def QC:WX:=fun X d G=>az (bj (Ap X .Lt (O 5) (Ae (.int 0))) (Kb X d G) AU) (QT X d G)
def PX:WX:=fun X d G=>az (Ar 5 (Ai X d (G "index_among") (Ac (Aj X .aP (O 4)) (Ac (O 0) Ag)))) (QC X d G)
def Pm:WX:=fun X d G=>CG (Nr (O 1)) (AB 4) (PX X d G)
def QS:WX:=fun X d G=>az (Ar 3 (Ae .none)) (Pm X d G)
def Nn:WX:=fun X d G=>az (Ar 2 (Ae (.bool true))) (QS X d G)
def NL:Bf:=Bk ["program","root","uses","scopes","scope","view","name","binding","passed"] ["Scope","read_names","all_scopes","mark_captured","give_places","look_up","len","capture"]
def J4:WX:=fun X d G=>wExpr (Ai X d (G "give_places") (Ac (O 4) (Ac (O 2) Ag)))
def O5:WX:=fun X d G=>wExpr (Ai X d (G "capture") (Ac (O 7) (Ac (O 8) Ag)))
def Qr:WX:=fun X d G=>bj (AP (Ap X .IsNot (O 7) (Ae .none)) (AP (Ap X .Gt (Ai X d (G "len") (Ac (O 8) Ag)) (Ae (.int 0))) AI)) (O5 X d G) AU
def JW:WX:=fun X d G=>az (CR [7,8] (Ai X d (G "look_up") (Ac (O 5) (Ac (O 6) Ag)))) (Qr X d G)
def QG:WX:=fun X d G=>az (CG (Au (O 2)) (Bc [5,6]) (JW X d G)) (AT (O 1))
def J5:WX:=fun X d G=>az (CG (Au (O 3)) (AB 4) (J4 X d G)) (QG X d G)
def QD:WX:=fun X d G=>az (wExpr (Ai X d (G "mark_captured") (Ac (O 2) (Ac (O 3) Ag)))) (J5 X d G)
def QN:WX:=fun X d G=>az (Ar 3 (Ai X d (G "all_scopes") (Ac (O 1) Ag))) (QD X d G)
def Pe:WX:=fun X d G=>az (Ar 2 (Ai X d (G "read_names") (Ac (O 1) Ag))) (QN X d G)
def PH:WX:=fun X d G=>az (Aq X .scope (O 1) (O 0)) (Pe X d G)
def Ni:WX:=fun X d G=>az (Ar 1 (Ai X d (G "Scope") (Ac (O 0) (Ac (Ae .none) Ag)))) (PH X d G)
noncomputable def dC(K:Frag)(a:Addr):List Stmt:=match K.lookup a with
 |some ⟨_,_,.func c,_⟩=>match c.body with
  |.stmts b=>b
  |_=>[]
 |_=>[]
structure nH(X:Cx)(G:String->V)(gs cs:List String):Prop where
 g:∀x,x∈gs->Ku X (ae x) (G x)
 c:∀x,x∈cs->∀cf,VR cf (G x)->Ey X.K cf
 re:G "reversed"=.typ "reversed"
 ra:G "range"=.typ "range"
 en:G "enumerate"=.typ "enumerate"
structure cX(X:Cx)(G:String->V)(sc:List (Str×ce)):Prop where
 d:∀p∈sc,(p.1==("__debug__":Str))=false/\(p.1==("__classdict__":Str))=false
 g:∀x,sc.lookup (ae x)=some uj->Ku X (ae x) (G x)
 c:∀x,sc.lookup (ae x)=some uj->∀cf,VR cf (G x)->Ey X.K cf
 re:G "reversed"=.typ "reversed"
 ra:G "range"=.typ "range"
 en:G "enumerate"=.typ "enumerate"
theorem mem_of_lookup{l:List (Str×ce)}{x:Str}{k:ce}(h:l.lookup x=some k):(x,k)∈l:=by
 induction l with
 |nil=>cases h
 |cons p l a=>
  obtain⟨y,k'⟩:=p;rw[e9]at h;cases e:(x==y)with
  |true=>
   rw[e]at h;have:x=y:=by simpa using e
   subst this;cases h;exact .head _
  |false=>rw[e]at h;exact .tail _ (a h)
noncomputable def RT(a:List Str)(sc:List (Str×ce)):Bool:=sc.all fun p=>(p.1==("__debug__":Str))==false&&(p.1==("__classdict__":Str))==false&&(p.2 != uj||a.contains p.1)
theorem cX.of{X:Cx}{G:String->V}{gs:List String}{sc:List (Str×ce)}(h:nH X G gs gs)(e:RT (gs.map ae) sc=true):cX X G sc:=by
 unfold RT at e;rw[dA]at e;have a:∀x,sc.lookup (ae x)=some uj->x∈gs:=fun x b=>by
  have:=e _ (mem_of_lookup b);simp at this;exact Cr (this) fun z y d f=>Z (ap (Ca f)) d
 refine⟨fun p i=>?_,fun x b=>h.g x (a x b),fun x b=>h.c x (a x b),h.re,h.ra,h.en⟩;have:=e p i;simp only[be,beq_iff_eq]at this;exact⟨this.1.1,this.1.2⟩
noncomputable def JM(a:Scope)(sc:List (Str×ce)):Bool:=a.kind==.function&&decide ((a.names.map (·.1)).Nodup)&&a.names.all fun x=>x.2 != .cell&&(x.2 != uk||a.names.lookup x.1==some uk) &&
 (x.2 != .free||(sc[sc.findIdx fun y=>y.1==x.1]?==some (x.1,.cell)||sc[sc.findIdx fun y=>y.1==x.1]?==some (x.1,.free)))
theorem eY.of{a:Scope}{sc:List (Str×ce)}(h:JM a sc=true):eY a sc:=by
 unfold JM at h;rw[be,be,dA]at h;obtain⟨⟨d,e⟩,c⟩:=h;refine⟨by simpa using d,by simpa using e,fun x b=>?_,fun x b f=>?_,fun x b=>?_⟩
 ·have:=c x b;simp at this;exact this.1.1
 ·have:=c x b;simp[f]at this;exact this
 ·have:=c _ b;simp at this;rcases this with h|h
  ·exact⟨_,h,.inl rfl⟩
  ·exact⟨_,h,.inr rfl⟩
section
variable{X:Cx}{d:Nat}{own:Bool}{sc:List (Str×ce)}{pos p p' aaj aat:Pos}{k k':Nat}{G:String->V}
theorem Ry{x:Str}{i:Nat}{a:ce}(c:cX X G sc)(b:sc[i]?=some (x,a))(e:a=.local\/a=.cell\/a=.free):bB X d own sc (.Name x p) (O i):=
 let h:=c.d _ (ay b)
 uE b e h.1 h.2
theorem Yv{x:String}(b:cX X G sc)(a:sc.lookup (ae x)=some uj):bB X d own sc (.Name (ae x) p) (Ae (G x)):=
 YS a (b.g x a) (b.d _ (mem_of_lookup a)).1
theorem XU{f:String}{es:List Expr}{A:WL}(h:cX X G sc)(i:es.all (fun e=>!isStarred e)=true)(b:sc.lookup (ae f)=some uj)(a:nF X d own sc es A):
  bB X d own sc (.Call (.Name (ae f) p') es [] p) (Ai X d (G f) A):=Xo i b (h.g f b) (h.d _ (mem_of_lookup b)).1 (h.c f b) a
variable{A:WE}
theorem v5{e:Expr}(b:cX X G sc)(f:eB e=false)(c:sc.lookup (ae "reversed")=some uj)(a:bB X d own sc e A):lg X d own sc (.Call (.Name (ae "reversed") p') [e] [] p) (Nr A):=
 Yz f c (b.re▸b.g _ c) (b.d _ (mem_of_lookup c)).1 a
theorem Wl{e:Expr}(b:cX X G sc)(f:eB e=false)(c:sc.lookup (ae "range")=some uj)(a:bB X d own sc e A):lg X d own sc (.Call (.Name (ae "range") p') [e] [] p) (GT A):=
 Ty f c (b.ra▸b.g _ c) (b.d _ (mem_of_lookup c)).1 a
theorem Yf{e:Expr}{es:List Expr}{b:List Stmt}{is:List Nat}{B:WS}(c:cX X G sc)(h:∀env x,d3 (.Call (.Name (ae "enumerate") aaj) [e] [] aat) env x=pure x)(i:eB e=false)(f:sc.lookup (ae "enumerate")=some uj)
  (T:J2 own sc es is) (j:is.length=2) (a:bB X d own sc e A) (l:lB X d own sc b B) :
  d9 X d own sc (.For (.Tuple es k p') (.Call (.Name (ae "enumerate") aaj) [e] [] aat) b [] p) (CP A is B):=UH h i f (c.en▸c.g _ f) (c.d _ (mem_of_lookup f)).1 T j a l
variable{g:Nat->V->U->List V->Option (List V)}
theorem YL{f:WI}{T:WT}{e:List (Option Nat)}{h b c:Expr}{i:List Expr}{a:Scope}{j:List String}(k:nH X G j j)(Ab:JM a sc=true)(l:RT (j.map ae) (AO a.names sc)=true)(m:∀env x,d3 c env x=pure x)
  (n:Et a.names sc=e) (o:lg X d own sc c f) (q:eH false (AO a.names sc) b g) (r:cX X G (AO a.names sc)->IY X d false (AO a.names sc) i T) (s:cX X G (AO a.names sc)->bB X d false (AO a.names sc) h A) :
  bB X d own sc (.ListComp h [⟨b,c,i,0⟩] a p) (Bm f g T A e):=XC (eY.of Ab) m o q (r (cX.of k l)) (s (cX.of k l)) n
theorem Vm{y:Str}{i:Nat}{f:WI}{T:WT}{e:List (Option Nat)}{h b c:Expr}{j:List Expr}{a:Scope}{l:List String}(o:nH X G l l)(r:sc[i]?=some (y,uk))(Ab:JM a sc=true)(q:RT (l.map ae) (AO a.names sc)=true)(s:∀env x,d3 c env x=pure x)
  (t:(p'.line==aaj.line)=true) (m:(a.names.any fun(n,k)=>n==y&&(k==uk||k==.cell))=false) (u:Et a.names sc=e) (v:lg X d own sc c f)
  (w:eH false (AO a.names sc) b g) (z:cX X G (AO a.names sc)->IY X d false (AO a.names sc) j T) (B:cX X G (AO a.names sc)->bB X d false (AO a.names sc) h A) :
  d9 X d own sc (.Assign [.Name y p'] (.ListComp h [⟨b,c,j,0⟩] a aaj) p) (Ar i (Bm f g T A e)):=Vf r (eY.of Ab) s t m v w (z (cX.of o q)) (B (cX.of o q)) u
structure o4(X:Cx)(d:Nat)(own:Bool)(sc:List (Str×ce))(keys:List (Option Expr))(vs:List Expr)(A:U->List V->(List (String×V)->U->Prop)->Prop):Prop where
 ex:∃ks,keys=LF ks/\pZ X d own sc ks vs A
theorem Yp:o4 X d own sc [] [] P3:=⟨[],rfl,XS⟩
theorem WJ{x:String}{c:List (Option Expr)}{v:Expr}{vs:List Expr}{B:U->List V->(List (String×V)->U->Prop)->Prop}(a:bB X d own sc v A)(b:o4 X d own sc c vs B):o4 X d own sc (some (.Constant (.str (ae x)) k p)::c) (v::vs) (Ft x A B):=by
 obtain⟨e,rfl,b⟩:=b;exact⟨(x,k,p)::e,rfl,Wv a b⟩
theorem Xg{b:List (Option Expr)}{vs:List Expr}{A:U->List V->(List (String×V)->U->Prop)->Prop}(f:b.length=vs.length)(g:b.isEmpty=false)(h:b.length<=15)(a:o4 X d own sc b vs A):bB X d own sc (.Dict b vs p) (PZ A):=by
 obtain⟨c,rfl,a⟩:=a;have e:(LF c).length=c.length:=by unfold LF;exact Z (ac ..) rfl
 exact XY a (Z (ap e) f) (fun z=>by subst z;cases g) (Z (ap e) h)
noncomputable def K7(names:List (Str×ce))(ps:List Str):Bool:=decide ((names.map (·.1)).Nodup)&&names.all (fun x=>x.2 != .free)&&decide (ps.length<=names.length) &&
 (ej ps.length).all fun i=>(names[i]?.map fun y=>some y.1==ps[i]?&&(y.2==uk||y.2==.cell))==some true
theorem jr.of{names:List (Str×ce)}{ps:List Str}{a:List (Str×Const)}(h:K7 names ps=true):jr ⟨.function,names,false,false,a⟩ ps:=by
 unfold K7 at h;rw[be,be,be,dA,dA]at h;obtain⟨⟨⟨f,g⟩,j⟩,k⟩:=h;refine⟨rfl,rfl,rfl,by simpa using f,fun i x b=>?_,fun x b=>by simpa using g x b,by simpa using j⟩;have l:=(av.mp b).1;have:=k i (by simpa using l);cases e:names[i]? with
 |none=>rw[e]at this;simp at this
 |some y=>
  rw[e,b]at this;simp at this;obtain⟨c,d⟩:=this;obtain⟨n,m⟩:=y;simp only at c d;subst c;exact⟨m,rfl,d⟩
structure dw(X:Cx)(G:String->V)(f:V)(n u:Nat)(N:List (Str×ce))(W:Cx->Nat->(String->V)->WS):Prop where
 call:∀{d:Nat} {H:U} {args:List V} {Q:V->U->Prop},args.length=n->W X d G H (args++f6 u .aa) (fun fl I z=>Q fl.val I)->aG X (d+1) H f args Q
theorem dw.of{fa:Addr}{ps:List Str}{a:List Stmt}{N:List (Str×ce)}{n u:Nat}{W:Cx->Nat->(String->V)->WS}{f:V}(j:f=.ref fa)(F:∃b,rC X.K fa ps a ⟨.function,N,false,false,b⟩)(Ab:K7 N ps=true)(k:ps.length=n)(l:N.length-n=u)
  (t:∀d,lB X d true N a (W X d G)):dw X G f n u N W:=⟨fun{d H e Q} g h=>by
 subst j;obtain⟨b,F⟩:=F;exact Uf F (jr.of Ab) (g.trans k.symm) fun c i=>(t d).h c H _ _ ⟨by exact Z i rfl,by exact Z i rfl⟩ (by refine Z g ?_;subst l;exact h)⟩
structure fW where
 (N B S C:Addr)
structure Code(X:Cx)(G:String->V)(k:fW):Prop where
 cx:CX X
 gN:G "Node"=.ref k.N
 gB:G "Binding"=.ref k.B
 gS:G "Scope"=.ref k.S
 gC:G "CatchScope"=.ref k.C
 pC:k.N≠k.B
 pF:k.N≠k.S
 qH:k.N≠k.C
 rP:k.S≠k.C
 qi:k.S≠k.B
 sH:k.B≠k.C
 nA:X.cm k.N=true
 oA:X.cm k.B=true
 jb:X.cm k.S=true
 mz:X.cm k.C=true
 lq:G "len"=.blt "len"
 dJ:G "isinstance"=.blt "isinstance"
 oM:G "any"=.blt "any"
 kY:G "list"=.typ "list"
 my:G "tuple"=.typ "tuple"
 nN:∃f,G "Node___init__"=.ref f/\JC X.K k.N f
 nB:∃f,G "Binding___init__"=.ref f/\JC X.K k.B f
 nS:∃f,G "Scope___init__"=.ref f/\JC X.K k.S f
 nC:∃f,G "CatchScope___init__"=.ref f/\JC X.K k.C f
 p7:∀t:bm,t∈[.type "NoneType",.type "bool",.type "int",.type "str",.type "list",.type "tuple",.ref k.N]->kitOne X.K t (.ref k.N)=some (t==.ref k.N)
 p8:∀t:bm,t∈[.ref k.S,.ref k.C]->kitOne X.K t (.ref k.S)=some (t==.ref k.S)
 pQ:∀t:bm,t∈[.type "NoneType",.type "bool",.type "int",.type "str",.type "list",.type "tuple"]->kitAny X.K t [.type "list",.type "tuple"]=some (t==.type "list"||t==.type "tuple")
 jn:∃f,G "Scope_declare"=.ref f/\DG X.K k.S (ae "declare") f
 iD:∃f,G "Scope_function"=.ref f/\DG X.K k.S (ae "function") f
 jj:∃f,G "Scope_binding"=.ref f/\DG X.K k.S (ae "binding") f
 jy:∃f,G "Scope_find"=.ref f/\DG X.K k.S (ae "find") f
 dG:∃f,G "Scope_is_constant"=.ref f/\DG X.K k.S (ae "is_constant") f
 iU:∃f,G "CatchScope_function"=.ref f/\DG X.K k.C (ae "function") f
 jm:∃f,G "CatchScope_binding"=.ref f/\DG X.K k.C (ae "binding") f
 jJ:∃f,G "CatchScope_find"=.ref f/\DG X.K k.C (ae "find") f
 dF:∃f,G "CatchScope_is_constant"=.ref f/\DG X.K k.C (ae "is_constant") f
 gw:dw X G (G "Node___init__") 4 0 FU FM
 jN:dw X G (G "nodes_of") 1 10 Lp Lq
 gW:dw X G (G "inner_nodes") 1 1 G3 G6
 jo:dw X G (G "own_nodes") 1 6 Kh JU
 jK:dw X G (G "add_once") 2 0 LC Mm
 jl:dw X G (G "var_names") 1 6 JY J3
 fJ:dw X G (G "function_decls") 1 0 EQ EV
 iJ:dw X G (G "last_decls") 1 6 Jc IB
 jA:dw X G (G "named_in") 2 2 MC LT
 eO:dw X G (G "needs_arguments") 2 3 En DY
 gn:dw X G (G "binding_names") 2 7 FP FT
 dM:dw X G (G "Binding___init__") 3 0 DJ DM
 fL:dw X G (G "Scope___init__") 3 6 EO EC
 gA:dw X G (G "Scope_declare") 1 4 FY FW
 fP:dw X G (G "Scope_function") 1 0 EY EI
 gD:dw X G (G "Scope_binding") 2 0 FQ FF
 gh:dw X G (G "Scope_find") 2 1 HU I1
 cO:dw X G (G "Scope_is_constant") 2 2 Dq Dp
 dg:dw X G (G "CatchScope___init__") 3 1 CY CZ
 cZ:dw X G (G "CatchScope_function") 1 0 C4 C3
 dq:dw X G (G "CatchScope_binding") 2 0 Df De
 cV:dw X G (G "CatchScope_find") 2 1 Ei Em
 cg:dw X G (G "CatchScope_is_constant") 2 2 Cn Cm
 j9:dw X G (G "look_up") 2 4 Nw Nl
 jw:dw X G (G "place_of") 2 7 MJ LX
 iG:dw X G (G "read_names") 1 11 IC Io
 iV:dw X G (G "all_scopes") 1 4 Ja Jm
 gG:dw X G (G "mark_captured") 2 7 FX FR
 gO:dw X G (G "is_self_used") 2 3 Go Gn
 iH:dw X G (G "give_place") 2 0 HV Ih
 gZ:dw X G (G "give_places") 2 4 Hj Hl
 ie:dw X G (G "index_among") 2 3 G8 Ha
 j6:dw X G (G "capture") 2 7 NF Nn
 j4:dw X G (G "analyse") 1 16 NL Ni
end
end Mine.Lake
end
section
open PySem PySem.W PySem.Calls PyProof.Rows
namespace Mine.Lake
def aD(H b:U):Prop:=∀a o,H a=some o->b a=some o
theorem aD.refl(H:U):aD H H:=fun z z e=>e
theorem aD.trans{H b H'':U}(h:aD H b)(c:aD b H''):aD H H'':=fun a o e=>c a o (h a o e)
theorem aD.set{H:U}{a:Addr}{o:bI}(h:H a=none):aD H (H.set a o):=fun b p e=>by
 rw[U.aC]
 ·exact e
 ·intro z;rw[z,h]at e;cases e
theorem aD.none{H b:U}(h:aD H b){a:Addr}(e:b a=none):H a=none:=by
 cases z:H a with
 |none=>rfl|some o=>rw[h a o z]at e;cases e
theorem Ah{H:U}{a b:Addr}{o p:bI}(h:H a=none)(e:H b=some p):(H.set a o) b=some p:=aD.set h b p e
theorem set_set{H:U}{a:Addr}{o p:bI}:(H.set a o).set a p=H.set a p:=by
 funext b;unfold U.set;split<;>rfl
theorem EZ{H:U}{a:Addr}{o:bI}(e:H a=some o):H.set a o=H:=by
 funext b;unfold U.set;split
 ·rename_i h;exact Z h (Z e rfl)
 ·rfl
theorem An{H:U}{a b:Addr}{o:bI}(h:H a=none)(e:H b=some o):b≠a:=fun z=>by rw[z,h]at e;cases e
theorem AZ{H:U}{a b:Addr}{o:bI}(e:(H.set a o) b=none):H b=none/\b≠a:=by
 by_cases h:b=a
 ·rw[h,U.ak]at e;cases e
 ·rw[U.aC _ _ h]at e;exact⟨e,h⟩
section
variable{X:Cx}{d:Nat}{H:U}{G:String->V}{k:fW}
variable{a:V}
theorem cj.one{vs:List bm}(r:cj vs [a]):∃v,vs=[v]/\VR v a:=by
 match vs,r with
 |[v],r=>exact⟨v,rfl,r.1⟩|[],r=>exact r.elim|_::_::_,r=>exact r.2.elim
theorem cj.two{vs:List bm}{b:V}(r:cj vs [a,b]):∃v w,vs=[v,w]/\VR v a/\VR w b:=by
 match vs,r with
 |[v,w],r=>exact⟨v,w,rfl,r.1,r.2.1⟩|[],r=>exact r.elim|[_],r=>exact r.2.elim|_::_::_::_,r=>exact r.2.2.elim
variable{l:Addr}{M:List V}{Q:V->U->Prop}
theorem Bn{x:V}(e:H l=some (.list M))(b:M.length<=aT)(q:Q .none (H.set l (.list (M++[x])))):Calls X d H (.blt "list.append") [.ref l,x] Q:=fun i j c f=>by
 obtain rfl:=c;refine Ay (f.two) fun v w a g h=>?_;obtain rfl:=a;exact⟨trivial,UJ e g h b q⟩
theorem NP{x:V}(e:H l=some (.list (M++[x])))(b:M.length<aT)(q:Q x (H.set l (.list M))):Calls X d H (.blt "list.pop") [.ref l] Q:=fun h i c f=>by
 obtain rfl:=c;refine Ad f.one fun v a g=>?_;subst a;exact⟨trivial,Act e g b q⟩
theorem dI{b:Addr}{ys:List V}(e:H l=some (.list M))(c:H b=some (.list ys))(f:M.length+ys.length<=aT)(q:Q .none (H.set l (.list (M++ys)))):Calls X d H (.blt "list.extend") [.ref l,.ref b] Q:=fun k m g h=>by
 obtain rfl:=g;refine Ay (h.two) fun v w a i j=>?_;obtain rfl:=a;exact⟨trivial,V6 e c i j f q⟩
theorem Jl(e:H l=some (.list M)):aO X H (.ref l) (ae "append") (.blt "list.append"):=aO.list slot_list_append (by refine Z pS ?_;kernel_rfl) e
theorem ZF(e:H l=some (.list M)):aO X H (.ref l) (ae "pop") (.blt "list.pop"):=aO.list PySem.F.slot_list_pop (by refine Z pS ?_;kernel_rfl) e
theorem P2(e:H l=some (.list M)):aO X H (.ref l) (ae "extend") (.blt "list.extend"):=aO.list PySem.F.slot_list_extend (by refine Z pS ?_;kernel_rfl) e
theorem Ue(c:Code X G k){t:bm}(T:GV X H a t)(e:t∈[mh "NoneType",.type "bool",.type "int",.type "str",.type "list",.type "tuple",.ref k.N])(q:Q (.bool (t==.ref k.N)) H):Calls X d H (.blt "isinstance") [a,.ref k.N] Q:=fun j l f g=>by
 obtain rfl:=f;refine Ay (g.two) fun v w b h i=>?_;obtain rfl:=b;obtain rfl:=i;exact⟨trivial,IW c.cx T h (c.p7 t e) q⟩
theorem TN(c:Code X G k){t:bm}(T:GV X H a t)(e:t∈[gi k.S,.ref k.C])(q:Q (.bool (t==.ref k.S)) H):Calls X d H (.blt "isinstance") [a,.ref k.S] Q:=fun j l f g=>by
 obtain rfl:=f;refine Ay (g.two) fun v w b h i=>?_;obtain rfl:=b;obtain rfl:=i;exact⟨trivial,IW c.cx T h (c.p8 t e) q⟩
theorem Tm(c:Code X G k){tp:Addr}{t:bm}(T:GV X H a t)(ht:t∈[mh "NoneType",.type "bool",.type "int",.type "str",.type "list",.type "tuple"])(et:H tp=some (.tup [.typ "list",.typ "tuple"]))(q:Q (.bool (t==.type "list"||t==.type "tuple")) H):Calls X d H (.blt "isinstance") [a,.ref tp] Q:=fun cf vs rf rs=>by
 obtain rfl:=rf;refine Ay (rs.two) fun v w zq2 r1 r2=>?_;obtain rfl:=zq2;refine⟨trivial,Jy c.cx T r1 r2 et (fun vs r=>Ay (r.two) fun v1 v2 zq2 h1 h2=>?_) q⟩;obtain rfl:=zq2;obtain rfl:=h1;obtain rfl:=h2;exact c.pQ t ht
end
end Mine.Lake
end
section
open PySem PySem.W PySem.Calls PyProof.Rows
set_option tactic.hygienic false
namespace Mine.Lake
theorem bU{P:Prop}(h:false=true):P:=fg h
theorem lL{p q:Prop}(h:p):if true=true then p else q:=h
theorem gF{p q:Prop}(h:q):if false=true then p else q:=h
theorem jd{b:Type}{a:b}{P:Prop}(h:some a=none):P:=absurd (congrArg hU h) fg
theorem gU{b:Type}{a:b}{P:Prop}(h:none=some a):P:=absurd (congrArg hU h) fg
noncomputable def MQ(o:bI):Nat:=bI.casesOn o (fun z=>0) (fun z=>1) (fun z z=>2) (fun z z=>3) (fun z=>4)
theorem Bu{o p:bI}(w:Nat.beq (MQ o) (MQ p)=false):o≠p:=fun z=>by
 rw[z]at w;exact absurd (Nat.beq_refl _) (Z w ax)
theorem rY{o p:bI}{P:Prop}(h:some o=some p)(w:Nat.beq (MQ o) (MQ p)=false):P:=absurd (ag h) (Bu w)
theorem Db{H:U}{x y:Addr}{o p:bI}(e:H x=some o)(a:H y=some p)(w:Nat.beq (MQ o) (MQ p)=false):x≠y:=fun z=>rY (e.symm.trans (Z z a)) w
theorem AM{H:U}{a z:Addr}{o b x:bI}(e:H a=some o)(c:H z=some b)(w:Nat.beq (MQ o) (MQ b)=false):(H.set z x) a=some o:=Z (U.aC _ _ (Db e c w)) e
def Pv(A:WE)(H:U)(m:List V)(v:V):Prop:=∀Q:V->U->Prop,Q v H->A H m Q
def cP(A:WT)(H:U)(m:List V)(v:Bool):Prop:=∀Q:Bool->U->Prop,Q v H->A H m Q
def m8(A:WL)(H:U)(m v:List V):Prop:=∀Q:List V->U->Prop,Q v H->A H m Q
inductive mG(X:Cx)(H:U)(x:Addr)(k:At)(v:V):Prop where
 |mk (C:Addr) (f:At->V):H x=some (.inst C f)->X.cm C=true->f k=v->jO v=false->mO v=false->mG X H x k v
section
variable{X:Cx}{d e₁ e₂:Nat}{G:String->V}{k:fW}{H I:U}{m:List V}{A B:WE}{S T:WT}{As:WL}{a b v f:V}{i j:Nat}{u:At}{x l:Addr}{c e:Bool}{vs M ys:List V}{op:mE}{Q:bu->U->List V->Prop}{AH aj W:WS}{R:V->U->Prop}
theorem aD.fH{o:bI}(h:aD H I)(e:H x=Option.none):aD H (I.set x o):=fun b p q=>by
 exact Z (U.aC _ _ (An (e) q)) (h b p q)
theorem Aa(e:m.getD i .aa=v)(u:jO v=false):Pv (O i) H m v:=fun Q q=>by unfold O;exact Z e ⟨nu u,q⟩
theorem Af:Pv (Ae v) H m v:=fun Q q=>q
theorem Am(a:Pv A H m (.ref x))(h:mG X H x u v):Pv (Aj X u A) H m v:=fun Q q=>a _ (by
 cases h with|mk C f c d b e g=>exact⟨x,C,f,rfl,c,d,sV b e,tH b g,by refine Z b ?_;exact q⟩)
theorem Fm(c:Pv A H m a)(d:Pv B H m b)(h:Mt H a b v):Pv (Ax A B) H m v:=fun Q q=>c _ (d _ ⟨v,h,q⟩)
noncomputable def Pp(n:Int):Bool:=decide (0<=n)&&decide (n<2^63)
theorem BR{n:Int}(a:Pv A H m (.ref l))(e:H l=some (.list M))(b:M[n.toNat]?=some v)(w:Pp n=true):Pv (Ax A (Ae (.int n))) H m v:=by
 unfold Pp at w;rw[be,decide_eq_true_eq,decide_eq_true_eq]at w;exact Fm a Af (.list e w.1 w.2 b)
theorem GP{n:Int}(a:Pv A H m (.ref l))(e:H l=some (.tup M))(b:M[n.toNat]?=some v)(w:Pp n=true):Pv (Ax A (Ae (.int n))) H m v:=by
 unfold Pp at w;rw[be,decide_eq_true_eq,decide_eq_true_eq]at w;exact Fm a Af (.tup e w.1 w.2 b)
theorem Eu(d:Pv A H m a)(e:Pv B H m b)(h:Bv X.cm H op a b=some c):Pv (Cu X op A B) H m (.bool c):=fun Q q=>d _ (e _ ⟨c,h,q⟩)
theorem OO{o:o3}(c:Pv A H m a)(d:Pv B H m b)(h:∀Q:V->U->Prop,Q v H->F0 o a b H Q):Pv (A1 o A B) H m v:=fun Q q=>c _ (d _ (h Q q))
theorem uM(a:Pv A H m (.bool c)):Pv (YM A) H m (.bool !c):=fun Q q=>a _ ⟨c,rfl,q⟩
theorem Aan{n:Int}(a:Pv A H m (.int n)):Pv (XD A) H m (.int (-n)):=fun Q q=>a _ ⟨n,rfl,q⟩
theorem Ox(a:Pv A H m (.bool false)):Pv (IE A B) H m (.bool false):=fun Q q=>a _ ⟨false,rfl,q⟩
theorem SZ(a:Pv A H m (.bool true))(b:Pv B H m v):Pv (IE A B) H m v:=fun Q q=>a _ ⟨true,rfl,b _ q⟩
theorem Mo(a:cP T H m true)(h:Pv A H m v):Pv (je T A B) H m v:=fun Q q=>a _ (h _ q)
theorem MK(a:cP T H m false)(h:Pv B H m v):Pv (je T A B) H m v:=fun Q q=>a _ (h _ q)
theorem A4:m8 Ag H m []:=fun Q q=>q
theorem BD(b:Pv A H m a)(c:m8 As H m vs):m8 (Ac A As) H m (a::vs):=fun Q q=>b _ (c _ q)
theorem AG(b:Pv A H m a):m8 (Ac A Ag) H m [a]:=BD b A4
theorem AD(c:Pv A H m a)(d:Pv B H m b):m8 (Ac A (Ac B Ag)) H m [a,b]:=BD c (AG d)
theorem aB(d:Pv A H m a)(e:Pv B H m b)(h:Bv X.cm H op a b=some c):cP (Ap X op A B) H m c:=fun Q q=>d _ (e _ ⟨c,h,q⟩)
theorem AJ(a:Pv A H m (.bool c)):cP (Av A) H m c:=fun Q q=>a _ ⟨c,rfl,q⟩
theorem IP(a:cP T H m c):cP (FL T) H m (!c):=fun Q q=>a _ q
theorem JF:cP AI H m true:=fun Q q=>q
theorem Ho:cP A7 H m false:=fun Q q=>q
theorem A0(a:cP S H m false):cP (AP S T) H m false:=fun Q q=>a _ q
theorem bH(a:cP S H m true)(b:cP T H m c):cP (AP S T) H m c:=fun Q q=>a _ (b _ q)
theorem DQ(a:cP S H m c):cP (AP S AI) H m c:=by
 cases c with
 |true=>exact bH a JF|false=>exact A0 a
theorem Du(a:cP S H m false)(b:cP T H m c):cP (Bq S T) H m c:=fun Q q=>a _ (b _ q)
theorem SQ(a:cP S H m true):cP (Bq S T) H m true:=fun Q q=>a _ q
theorem aG.low(h:aG X (d+e₁) H f vs R)(q:e₁<=e₂):Calls X (d+e₂) H f vs R:=h.calls.lower (br q d)
theorem Ao(a:m8 As H m vs)(h:aG X (d+e₁) H f vs R)(q:e₁<=e₂):Ai X (d+e₂) f As H m R:=a _ (h.low q)
theorem Gb(a:m8 As H m vs)(h:Calls X d H f vs R):Ai X d f As H m R:=a _ h
theorem Bz{n:String}(b:Pv A H m a)(xs:aO X H a (ae n) f)(c:m8 As H m vs)(h:aG X (d+e₁) H f (a::vs) R)(q:e₁<=e₂):AC X (d+e₂) n A As H m R:=b _ ⟨f,xs,c _ (h.low q)⟩
theorem Uj(h:A H m fun a b=>Calls X d b f [a] R):Ai X d f (Ac A Ag) H m R:=h
theorem C9(c:Code X G k)(a:Pv A H m (.ref l))(e:H l=some (.list M))(z:M.length<=aT):Pv (Ai X d (G "len") (Ac A Ag)) H m (.int M.length):=fun Q q=>by
 exact Z c.lq (a _ (TO e z q))
theorem E7(c:Code X G k)(a:Pv A H m (.ref l))(e:H l=some (.list [])):cP (Ap X .Gt (Ai X d (G "len") (Ac A Ag)) (Ae (.int 0))) H m false:=aB (C9 c a e (dd rfl)) Af rfl
theorem E8(c:Code X G k)(a:Pv A H m (.ref l))(e:H l=some (.list M))(z:M.length<=aT)(h:M≠[]):cP (Ap X .Gt (Ai X d (G "len") (Ac A Ag)) (Ae (.int 0))) H m true:=aB (C9 c a e z) Af (congrArg some (decide_eq_true (li.mpr (List.length_pos_iff.mpr h))))
inductive kJ:V->bm->Prop where
 |none:kJ .none (.type "NoneType")
 |bool (b:Bool):kJ (.bool b) (.type "bool")
 |int (i:Int):kJ (.int i) (.type "int")
 |str (x:String):kJ (.str x) (.type "str")
variable{t:bm}
theorem kJ.use{P:V->bm->Prop}(h:kJ a t)(c:P .none (.type "NoneType"))(d:∀b,P (.bool b) (.type "bool"))(e:∀i,P (.int i) (.type "int"))(f:∀x,P (.str x) (.type "str")):P a t:=by
 cases h with
 |none=>exact c|bool b=>exact d b|int i=>exact e i|str x=>exact f x
inductive UZ(H:U)(a:Addr):bm->Prop where
 |list (M:List V) (e:H a=some (.list M)):UZ H a (.type "list")
 |tup (M:List V) (e:H a=some (.tup M)):UZ H a (.type "tuple")
theorem HG(c:Code X G k)(b:Pv A H m a)(T:GV X H a t)(f:t∈[mh "NoneType",.type "bool",.type "int",.type "str",.type "list",.type "tuple",.ref k.N])(w:(t==.ref k.N)=e):Pv (Ai X d (G "isinstance") (Ac A (Ac (Ae (G "Node")) Ag))) H m (.bool e):=fun Q q=>by
 subst w;exact Z c.dJ (Z c.gN (b _ (Ue c T f q)))
variable{g:At->V}
theorem VQ(c:Code X G k)(a:Pv A H m (.ref x))(e:H x=some (.inst k.N g)):Pv (Ai X d (G "isinstance") (Ac A (Ac (Ae (G "Node")) Ag))) H m (.bool true):=
 HG c a (.inst e c.nA) (.tail _ (.tail _ (.tail _ (.tail _ (.tail _ (.tail _ (.head _))))))) (beq_self_eq_true _)
theorem V0(c:Code X G k)(b:Pv A H m a)(T:kJ a t):Pv (Ai X d (G "isinstance") (Ac A (Ac (Ae (G "Node")) Ag))) H m (.bool false):=
 T.use (P:=fun a t=>Pv A H m a->Pv (Ai X d (G "isinstance") (Ac A (Ac (Ae (G "Node")) Ag))) H m (.bool false)) (fun a=>HG c a .none (.head _) rfl) (fun z a=>HG c a (.bool _) (.tail _ (.head _)) rfl) (fun z a=>HG c a (.int _) (.tail _ (.tail _ (.head _))) rfl) (fun z a=>HG c a (.str _) (.tail _ (.tail _ (.tail _ (.head _)))) rfl) b
theorem VZ(c:Code X G k)(a:Pv A H m (.ref x))(T:UZ H x t):Pv (Ai X d (G "isinstance") (Ac A (Ac (Ae (G "Node")) Ag))) H m (.bool false):=by
 cases T with
 |list M e=>exact HG c a (.list e) (.tail _ (.tail _ (.tail _ (.tail _ (.head _))))) rfl|tup M e=>exact HG c a (.tup e) (.tail _ (.tail _ (.tail _ (.tail _ (.tail _ (.head _)))))) rfl
theorem Vz(c:Code X G k)(b:Pv A H m a)(T:GV X H a t)(f:t∈[gi k.S,.ref k.C])(w:(t==.ref k.S)=e):Pv (Ai X d (G "isinstance") (Ac A (Ac (Ae (G "Scope")) Ag))) H m (.bool e):=fun Q q=>by
 subst w;exact Z c.dJ (Z c.gS (b _ (TN c T f q)))
theorem W1(c:Code X G k)(a:Pv A H m (.ref x))(e:H x=some (.inst k.S g)):Pv (Ai X d (G "isinstance") (Ac A (Ac (Ae (G "Scope")) Ag))) H m (.bool true):=
 Vz c a (.inst e c.jb) (.head _) (beq_self_eq_true _)
theorem Vj(c:Code X G k)(a:Pv A H m (.ref x))(e:H x=some (.inst k.C g)):Pv (Ai X d (G "isinstance") (Ac A (Ac (Ae (G "Scope")) Ag))) H m (.bool false):=
 Vz c a (.inst e c.mz) (.tail _ (.head _)) (beq_false_of_ne fun z=>c.rP (Value.ref.inj z).symm)
theorem Nj(c:Code X G k)(f:Pv A H m a)(T:∀r,H r=none->GV X (H.set r (.tup [.typ "list",.typ "tuple"])) a t)(g:t∈[mh "NoneType",.type "bool",.type "int",.type "str",.type "list",.type "tuple"])(w:(t==.type "list"||t==.type "tuple")=e)
  (q:∀r,H r=none->if e then AH (H.set r (.tup [.typ "list",.typ "tuple"])) m Q else aj (H.set r (.tup [.typ "list",.typ "tuple"])) m Q) :
  bj (Av (Ai X d (G "isinstance") (Ac A (Ac (Bg (Ac (Ae (G "list")) (Ac (Ae (G "tuple")) Ag))) Ag)))) AH aj H m Q:=f _ ⟨(dd rfl),fun r b=>by
 subst w;refine Z c.dJ (Z c.kY (Z c.my ?_));exact Tm c (T r b) g (U.ak ..) ⟨_,rfl,q r b⟩⟩
theorem X0(c:Code X G k)(b:Pv A H m a)(T:kJ a t)(q:∀r,H r=none->aj (H.set r (.tup [.typ "list",.typ "tuple"])) m Q):
  bj (Av (Ai X d (G "isinstance") (Ac A (Ac (Bg (Ac (Ae (G "list")) (Ac (Ae (G "tuple")) Ag))) Ag)))) AH aj H m Q:=
 T.use (P:=fun a t=>Pv A H m a->bj (Av (Ai X d (G "isinstance") (Ac A (Ac (Bg (Ac (Ae (G "list")) (Ac (Ae (G "tuple")) Ag))) Ag)))) AH aj H m Q) (fun a=>Nj c a (fun z z=>.none) (.head _) rfl q) (fun z a=>Nj c a (fun z z=>.bool _) (.tail _ (.head _)) rfl q) (fun z a=>Nj c a (fun z z=>.int _) (.tail _ (.tail _ (.head _))) rfl q) (fun z a=>Nj c a (fun z z=>.str _) (.tail _ (.tail _ (.tail _ (.head _)))) rfl q) b
theorem YW(c:Code X G k)(a:Pv A H m (.ref x))(T:UZ H x t)(q:∀r,H r=none->AH (H.set r (.tup [.typ "list",.typ "tuple"])) m Q):
  bj (Av (Ai X d (G "isinstance") (Ac A (Ac (Bg (Ac (Ae (G "list")) (Ac (Ae (G "tuple")) Ag))) Ag)))) AH aj H m Q:=by
 cases T with
 |list M e=>exact Nj c a (fun z b=>.list (Ah b e)) (.tail _ (.tail _ (.tail _ (.tail _ (.head _))))) rfl q|tup M e=>exact Nj c a (fun z b=>.tup (Ah b e)) (.tail _ (.tail _ (.tail _ (.tail _ (.tail _ (.head _)))))) rfl q
theorem SM{n:String}(b:Pv A H m a)(xs:aO X H a (ae n) f)(h:∀R:V->U->Prop,R v H->aG X (d+e₁) H f [a] R)(q:e₁<=e₂):Pv (AC X (d+e₂) n A Ag) H m v:=fun Q w=>b _ ⟨f,xs,(h Q w).low q⟩
theorem AX(a:m8 As H m vs)(z:vs.length<=aT)(q:∀r,H r=none->R (.ref r) (H.set r (.list vs))):AF As H m R:=a _ ⟨z,q⟩
theorem bV(a:m8 As H m vs)(z:vs.length<=aT)(q:∀r,H r=none->R (.ref r) (H.set r (.tup vs))):Bg As H m R:=a _ ⟨z,q⟩
theorem vO(a:Pv A H m (.ref l))(e:H l=some (.list M))(z:M.length<=aT)(q:∀r,H r=none->R (.ref r) (H.set r (.list M.reverse))):Ct A H m R:=a _ ⟨l,M,rfl,e,z,q⟩
theorem KV(h:A H m fun a b=>Q7 b a fun z M=>M9 (.list M.reverse) M.length b R):Ct A H m R:=h
variable{n:Nat}
theorem X6(a:Pv A H m (.ref l))(e:H l=some (.list M))(b:Pv B H m (.int n))(z:M.length<=aT)(q:∀c,H c=none->R (.ref c) (H.set c (.list (M.drop n)))):K1 A B H m R:=a _ (b _ ⟨l,M,n,rfl,e,rfl,z,q⟩)
theorem HL{i j:Int}(a:Pv A H m (.int i))(b:Pv B H m (.int j)):Pv (A1 .Add A B) H m (.int (i+j)):=fun Q q=>a _ (b _ (zM q))
theorem OM{i j:Int}(a:Pv A H m (.int i))(b:Pv B H m (.int j)):Pv (A1 .Sub A B) H m (.int (i-j)):=fun Q q=>a _ (b _ (AaA q))
theorem JN{o:o3}(h:A H m fun a c=>B c m fun b d=>F0 o a b d R):A1 o A B H m R:=h
theorem Ev(a:cP T H m true)(h:A H m R):je T A B H m R:=a _ (lL h)
theorem Es(a:cP T H m false)(h:B H m R):je T A B H m R:=a _ (gF h)
theorem Dt(a:cP T H m true)(q:AH H m Q):bj T AH aj H m Q:=a _ q
theorem iB(a:cP T H m false)(q:aj H m Q):bj T AH aj H m Q:=a _ q
theorem BJ(a:cP T H m false)(q:Q .next H m):bj T AH AU H m Q:=iB a q
theorem EU(a:cP T H m true)(q:az AH W H m Q):az (bj T AH aj) W H m Q:=a _ q
theorem Vd(a:cP T H m false)(q:az aj W H m Q):az (bj T AH aj) W H m Q:=a _ q
theorem Bs(a:cP T H m false)(q:W H m Q):az (bj T AH AU) W H m Q:=Vd a q
theorem fO(h:T H m fun c a=>if c then az AH W a m Q else az aj W a m Q):az (bj T AH aj) W H m Q:=h
theorem We(h:T H m fun c a=>if c then AH a m Q else aj a m Q):bj T AH aj H m Q:=h
variable{K:Bool->U->Prop}
theorem Hx(a:cP S H m false)(h:T H m K):Bq S T H m K:=a _ h
theorem KL(a:cP S H m true)(h:T H m K):AP S T H m K:=a _ h
theorem eE(h:S H m fun b a=>if b then K true a else T a m K):Bq S T H m K:=h
theorem GH(d:Pv A H m a)(h:B H m fun b c=>Rg X op a b c fun k=>K k c):Ap X op A B H m K:=d _ h
theorem vH(h:A H m fun a c=>JZ a fun b=>if b then az AH W c m Q else az aj W c m Q):az (bj (Av A) AH aj) W H m Q:=h
theorem ZU(h:A H m fun a c=>JZ a fun b=>if b then R (.bool true) c else B c m R):pN A B H m R:=h
theorem OI(h:A H m fun a c=>JZ a fun b=>if b then B c m R else R (.bool false) c):IE A B H m R:=h
theorem K6(d:Pv A H m a)(h:B H m fun b c=>Rg X op a b c fun k=>R (.bool k) c):Cu X op A B H m R:=d _ h
theorem HY(h:K false H):A7 H m K:=h
theorem S0(h:K true H):AI H m K:=h
theorem Z4(q:W H m Q):az AU W H m Q:=q
theorem A9(a:Pv A H m v)(q:Q (.ret v) H m):AT A H m Q:=a _ q
theorem Bh(h:A H m fun v I=>Q (.ret v) I m):AT A H m Q:=h
theorem NM(a:Pv A H m v)(q:Q (.ret v) H m):az (AT A) W H m Q:=a _ q
theorem Vv(h:A H m fun v I=>Q (.ret v) I m):az (AT A) W H m Q:=h
theorem Id(a:Pv A H m v)(q:W H (m.set i v) Q):az (Ar i A) W H m Q:=a _ q
theorem AL(h:A H m fun v I=>W I (m.set i v) Q):az (Ar i A) W H m Q:=h
theorem SS(a:Pv A H m v)(q:Q .next H (m.set i v)):Ar i A H m Q:=a _ q
theorem Vb(h:A H m fun v I=>Q .next I (m.set i v)):Ar i A H m Q:=h
theorem Gj(h:A H m fun z I=>Q .next I m):wExpr A H m Q:=h
theorem LK(h:A H m fun z I=>W I m Q):az (wExpr A) W H m Q:=h
variable{C:Addr}
theorem V4(b:Pv A H m a)(c:Pv B H m (.ref x))(e:H x=some (.inst C g))(w:X.cm C=true)(q:Q .next (H.set x (.inst C (upd g u a))) m):Aq X u A B H m Q:=b _ (c _ ⟨x,C,g,rfl,e,w,q⟩)
theorem N0(b:Pv A H m a)(c:Pv B H m (.ref x))(e:H x=some (.inst C g))(w:X.cm C=true)(q:W (H.set x (.inst C (upd g u a))) m Q):az (Aq X u A B) W H m Q:=b _ (c _ ⟨x,C,g,rfl,e,w,q⟩)
theorem Cg(b:Pv A (H.set x (.inst C g)) m a)(c:Pv B (H.set x (.inst C g)) m (.ref x))(w:X.cm C=true)(q:W (H.set x (.inst C (upd g u a))) m Q):az (Aq X u A B) W (H.set x (.inst C g)) m Q:=N0 b c (U.ak ..) w (Z set_set q)
theorem Xa(b:Pv A (H.set x (.inst C g)) m a)(c:Pv B (H.set x (.inst C g)) m (.ref x))(w:X.cm C=true)(q:Q .next (H.set x (.inst C (upd g u a))) m):Aq X u A B (H.set x (.inst C g)) m Q:=V4 b c (U.ak ..) w (Z set_set q)
theorem Uv{es:List (String×V)}{b:Nat}{y:String}{K:U->Prop}(e:H l=some (.dict es b))(c:es.lookup y=none)(d:es.length<1000)(q:∀b,K (H.set l (.dict (es++[(y,a)]) b))):Iz (.ref l) (.str y) a H K:=.inr ⟨es,b,y,e,rfl,c,d,q⟩
theorem Aby{H':WE}(h:A H m fun a d=>B d m fun b e=>H' e m fun c f=>Iz b c a f fun g=>Q .next g m):Iv A B H' H m Q:=h
theorem Adl{i j:Int}(a:Pv A H m (.ref x))(e:H x=some (.inst C g))(w:X.cm C=true)(b:g u=.int i)(c:Pv B H m (.int j))(q:Q .next (H.set x (.inst C (upd g u (.int (i+j))))) m):ER X u A B H m Q:=a _ ⟨x,C,g,rfl,e,w,i,b,c _ ⟨j,g,rfl,e,q⟩⟩
theorem Ju(h:A H m fun a c=>B c m fun b d=>Iw X u a b d fun e=>W e m Q):az (Aq X u A B) W H m Q:=h
theorem VT(h:A H m fun a c=>B c m fun b d=>Iw X u a b d fun e=>Q .next e m):Aq X u A B H m Q:=h
variable{is:List Nat}
theorem ZO(a:Pv A H m (.ref l))(e:H l=some (.tup M))(w:M.length=is.length)(q:W H (Do m is M) Q):az (CR is A) W H m Q:=a _ ⟨l,M,rfl,e,w,q⟩
theorem Lg(h:A H m fun v I=>rM I v is.length fun M=>W I (Do m is M) Q):az (CR is A) W H m Q:=h
theorem Ib(a:Pv A H m (.ref l))(e:H l=some (.list M))(z:M.length<=aT)(c:Pv B H m b)(q:Q .next (H.set l (.list (M++[b]))) m):wExpr (AC X d "append" A (Ac B Ag)) H m Q:=a _ ⟨_,Jl e,c _ (Bn e z q)⟩
theorem NE(a:Pv A H m (.ref l))(e:H l=some (.list M))(z:M.length<=aT)(c:Pv B H m b)(q:W (H.set l (.list (M++[b]))) m Q):az (wExpr (AC X d "append" A (Ac B Ag))) W H m Q:=a _ ⟨_,Jl e,c _ (Bn e z q)⟩
theorem Wp(c:Pv A H m (.ref l))(e:H l=some (.list M))(h:B H m fun b a=>Calls X d a (.blt "list.extend") [.ref l,b] fun z I=>Q .next I m):wExpr (AC X d "extend" A (Ac B Ag)) H m Q:=c _ ⟨_,P2 e,h⟩
theorem Ab1(c:Pv A H m (.ref l))(e:H l=some (.list M))(h:B H m fun b a=>Calls X d a (.blt "list.extend") [.ref l,b] fun z I=>W I m Q):az (wExpr (AC X d "extend" A (Ac B Ag))) W H m Q:=c _ ⟨_,P2 e,h⟩
theorem Rk(c:Pv A H m (.ref l))(e:H l=some (.list M))(h:B H m fun b a=>Calls X d a (.blt "list.append") [.ref l,b] fun z I=>Q .next I m):wExpr (AC X d "append" A (Ac B Ag)) H m Q:=c _ ⟨_,Jl e,h⟩
theorem O1(c:Pv A H m (.ref l))(e:H l=some (.list M))(h:B H m fun b a=>Calls X d a (.blt "list.append") [.ref l,b] fun z I=>W I m Q):az (wExpr (AC X d "append" A (Ac B Ag))) W H m Q:=c _ ⟨_,Jl e,h⟩
theorem U2(a:Pv A H m (.ref l))(e:H l=some (.list (M++[v])))(z:M.length<aT)(q:W (H.set l (.list M)) (m.set i v) Q):az (Ar i (AC X d "pop" A Ag)) W H m Q:=a _ ⟨_,ZF e,NP e z q⟩
theorem Fh(h:A H m fun a d=>B d m fun b c=>∀r,c r=none->W (c.set r (.tup [a,b])) ((m.set j b).set i a) Q):az (Dn i j A B) W H m Q:=h
variable{ok:U->Prop}
theorem V7{f:Type}{g h:f->V}{p:f->Bool}{a:List V}{Q:List V->U->Prop}(b:ok H):∀(ts:List f) (j:Nat) (acc m:List V),(∀x,m.set n x=a.set n x)->(∀t∈ts,cP T H (a.set n (g t)) (p t)/\(p t=true->Pv A H (a.set n (g t)) (h t)))->Q (acc++(ts.filter p).map h) H ->
  cN (AB n) ok T A Q j acc (ts.map g) H m:=by
 intro ts;induction ts with
 |nil=>exact fun j acc m z z q=>⟨b,by rw[qE,List.map_nil,aS]at q;exact q⟩
 |cons t ts k=>
  intro j acc m l d q;have c:∀x,(a.set n (g t)).set n x=a.set n x:=fun x=>List.set_set _;refine⟨b,a.set n (g t),congrArg some (l _),(d t (.head _)).1 _ ?_⟩;cases e:p t with
  |true=>
   rw[iE e,dr,List.append_cons]at q;exact(d t (.head _)).2 e _ (k _ _ _ c (fun u i=>d u (.tail _ i)) q)
  |false=>
   rw[iF (by refine Z e ?_;exact ax)]at q;exact k _ _ _ c (fun u i=>d u (.tail _ i)) q
theorem Wk{a:Type}{ts:List a}{g h:a->V}{p:a->Bool}{Q:List V->U->Prop}(b:ok H)(c:∀t∈ts,cP T H (m.set n (g t)) (p t)/\(p t=true->Pv A H (m.set n (g t)) (h t)))(q:Q ((ts.filter p).map h) H):cN (AB n) ok T A Q 0 [] (ts.map g) H m:=
 V7 b ts 0 [] m (fun z=>rfl) c q
theorem kW{b:Type}{ts:List b}{g h:b->V}{Q:List V->U->Prop}(a:ok H)(c:∀t∈ts,Pv A H (m.set n (g t)) (h t))(q:Q (ts.map h) H):cN (AB n) ok AI A Q 0 [] (ts.map g) H m:=
 Wk a (fun t d=>⟨JF,fun z=>c t d⟩) (Z (tx.mpr fun z z=>rfl) q)
theorem Fg{d:Nat->V->U->List V->Option (List V)}{b:List (Option Nat)}(a:Pv A H m (.ref l))(e:H l=some (.list M))(z:M.length<=aT)(h:cN d (fun H=>H l=some (.list M)) T B (fun ys c=>∀r,c r=none->R (.ref r) (c.set r (.list ys))) 0 [] M H (b.map (Nm m))):Bm (Au A) d T B b H m R:=a _ ⟨l,M,rfl,e,z,h⟩
theorem EN{e:Nat->V->U->List V->Option (List V)}{b:List (Option Nat)}(h:A H m fun a c=>Q7 c a fun l M=>M.length<=aT/\cN e (fun H=>H l=some (.list M)) T B (fun ys d=>∀r,d r=none->R (.ref r) (d.set r (.list ys))) 0 [] M c (b.map (Nm m))):Bm (Au A) e T B b H m R:=h
theorem CB(e:H l=some (.tup M))(a:M.length=is.length):Bc is j (.ref l) H m=some (Do m is M):=by unfold Bc;dsimp only;exact Z e (if_pos a)
def Hh(W:WS)(Q:bu->U->List V->Prop):bu->U->List V->Prop:=fun fl a b=>match fl with
 |.next=>W a b Q
 |fl=>Q fl a b
theorem ZD{S:WS}(h:S H m (Hh W Q)):az S W H m Q:=h
theorem jQ(q:W H m Q):Hh W Q .next H m:=q
def qU(H':Nat->U->List V->Prop)(n:Nat)(Q:bu->U->List V->Prop):bu->U->List V->Prop:=fun fl a b=>match fl with
 |.next|.cont=>∃k,k<n/\H' k a b
 |.brk=>Q .next a b
 |.ret v=>Q (.ret v) a b
theorem cJ{H':Nat->U->List V->Prop}{k:Nat}(h:k<n)(q:H' k H m):qU H' n Q .next H m:=⟨k,h,q⟩
inductive qI(T:WT)(AH W:WS)(H':Nat->U->List V->Prop)(n:Nat)(H:U)(m:List V)(Q:bu->U->List V->Prop):Prop where
 |stop:cP T H m false->W H m Q->qI T AH W H' n H m Q
 |go:cP T H m true->AH H m (qU H' n (Hh W Q))->qI T AH W H' n H m Q
theorem Tx(H':Nat->U->List V->Prop)(n:Nat)(a:H' n H m)(h:∀n H m,H' n H m->qI T AH W H' n H m Q):az (DC T AH) W H m Q:=⟨H',n,a,fun n H m b=>by
 cases h n H m b with
 |stop t q=>exact t _ q|go t q=>exact t _ q⟩
theorem J9{b:Nat->V->U->List V->Option (List V)}(a:Pv A H m (.ref l))(e:H l=some (.list M))(h:forL b (fun H=>H l=some (.list M)) AH (Hh W Q) 0 M H m):az (CG (Au A) b AH) W H m Q:=a _ ⟨l,M,rfl,e,h⟩
theorem MB{a:Nat->V->U->List V->Option (List V)}(h:A H m fun v I=>Q7 I v fun l M=>forL a (fun H=>H l=some (.list M)) AH (Hh W Q) 0 M I m):az (CG (Au A) a AH) W H m Q:=h
theorem Lo{b:Nat->V->U->List V->Option (List V)}(a:Pv A H m (.ref l))(e:H l=some (.list M))(h:forL b (fun H=>H l=some (.list M)) AH Q 0 M H m):CG (Au A) b AH H m Q:=a _ ⟨l,M,rfl,e,h⟩
theorem PC{b:Nat->V->U->List V->Option (List V)}(a:Pv A H m (.ref l))(h:(H l=some (.list M)/\forL b (fun H=>H l=some (.list M)) AH Q 0 M.reverse H m)\/(H l=some (.tup M)/\M.length<2^60/\forL b (fun H=>H l=some (.tup M)) AH Q 0 M.reverse H m)):CG (Nr A) b AH H m Q:=a _ ⟨l,M,rfl,h⟩
theorem Aaf{es:List (String×V)}{b:Nat}(a:Pv A H m (.ref l))(e:H l=some (.dict es b))(h:forL (AB n) (fun H=>H l=some (.dict es b)) AH (Hh W Q) 0 (HF es) H m):az (IA A n AH) W H m Q:=a _ ⟨l,es,b,rfl,e,h⟩
theorem Lz(a:Pv A H m (.ref l))(e:H l=some (.list M))(h:forL (Oo is) (fun H=>H l=some (.list M)) AH (Hh W Q) 0 M H m):az (CP A is AH) W H m Q:=a _ ⟨l,M,rfl,e,h⟩
end
section
variable{X:Cx}{d:Nat}{H:U}{G:String->V}{k:fW}
mutual
inductive Fl(H:U)(N:Addr):V->List V->Nat->Prop where
 |node {a:Addr} {f:At->V} (e:H a=some (.inst N f)):Fl H N (.ref a) [.ref a] 1
 |none:Fl H N .none [] 1
 |bool (b:Bool):Fl H N (.bool b) [] 1
 |int (i:Int):Fl H N (.int i) [] 1
 |str (s:String):Fl H N (.str s) [] 1
 |list {a:Addr} {M ns:List V} {n:Nat} (e:H a=some (.list M)) (h:j7 H N M ns n):Fl H N (.ref a) ns (n+1)
 |tup {a:Addr} {M ns:List V} {n:Nat} (e:H a=some (.tup M)) (h:j7 H N M ns n):Fl H N (.ref a) ns (n+1)
inductive j7(H:U)(N:Addr):List V->List V->Nat->Prop where
 |nil:j7 H N [] [] 0
 |cons {x:V} {M ns ms:List V} {n m:Nat} (h:Fl H N x ns n) (t:j7 H N M ms m):j7 H N (x::M) (ns++ms) (n+m)
end
variable{N:Addr}{n:Nat}
theorem Fl.pos{x:V}{a:List V}(h:Fl H N x a n):1<=n:=by cases h<;>lia
theorem j7.len{M a:List V}(h:j7 H N M a n):M.length<=n:=by
 induction M generalizing a n with
 |nil=>exact bq _|cons x M b=>
  cases h with
  |cons h t=>exact ab (cc (b t) h.pos) (ct (ds ..))
theorem j7.app{M ys a b:List V}{m:Nat}(h:j7 H N M a n)(c:j7 H N ys b m):j7 H N (M++ys) (a++b) (n+m):=by
 induction M generalizing a n with
 |nil=>cases h;simpa using c
 |cons x M d=>
  cases h with
  |cons h t=>
   exact Z (ci ..) (Z (dn ..) (.cons h (d t)))
theorem sz(h:n<=1000000):n<=aT:=ab h (dd rfl)
theorem qP(h:n<=1000000):n<aT:=aI h (dd rfl)
theorem Fl.out{x:V}{a:List V}(h:Fl H N x a n):a.length<=n:=
 Fl.rec (motive_1:=fun x a n z=>a.length<=n) (motive_2:=fun c a n z=>a.length<=n) (fun z=>ai _) (bq _) (fun z=>bq _) (fun z=>bq _) (fun z=>bq _)
  (fun z z h=>by exact hW h) (fun z z h=>by exact hW h) (ai _) (fun z z h b=>by refine Z ba ?_;exact cc h b) h
variable{ok:U->Prop}{l:Addr}
theorem TB{Q:bu->U->List V->Prop}{v f x:V}{b:List V}:∀(ys:List V) (j:Nat) (H:U) (w:List V) (o:V),H l=some (.list w)->(∀g,ok (H.set l (.list g)))->w.length+ys.length<=1000000->(∀y∈ys,jO y=false) ->
  (∀o',Q .next (H.set l (.list (w++ys))) (v::f::.ref l::x::o'::b))->forL (AB 4) ok (wExpr (AC X d "append" (O 2) (Ac (O 4) Ag))) Q j ys H (v::f::.ref l::x::o::b):=by
 intro ys;induction ys with
 |nil=>exact fun j H w o c a e h q=>⟨EZ c▸a w,by have:=q o;rw[aS,EZ c]at this;exact this⟩
 |cons y ys i=>
  exact fun j H w o c a e h q=>⟨EZ c▸a w,_,rfl,Ib (Aa rfl rfl) c (sz (ab (bp _ _) e)) (Aa rfl (h y (.head _)))
   (i (j+1) _ (w++[y]) y (U.ak ..) (fun g=>by refine Z set_set ?_;exact a g) (Z ba (Z (dn ..) (Z (ds _ ys.length) e))) (fun z e=>h z (.tail _ e)) fun o'=>by refine Z set_set (Z (ci ..) ?_);exact q o')⟩
theorem Fl.qg{x:V}{a:List V}(h:Fl H N x a n):jO x=false:=by cases h<;>rfl
theorem j7.oW{M a:List V}{p:Nat}(h:j7 H N M a p):∀y∈M,jO y=false:=by
 induction M generalizing a p with
 |nil=>exact nofun|cons z M b=>
  cases h with
  |cons h t=>exact cw.mpr ⟨h.qg,b t⟩
variable{a:Addr}{K:bu->U->List V->Prop}
theorem DW(c:Code X G k){f:U}{v x b:V}{r:Addr}{t:bm}(e:jO x=false)(T:kJ x t)
  (g:∀u,f u=none->K .next (f.set u (.tup [.typ "list",.typ "tuple"])) [v,.ref r,.ref a,x,b,.aa,.aa,.aa,.aa,.aa,.aa]) :
  CN X d G f [v,.ref r,.ref a,x,b,.aa,.aa,.aa,.aa,.aa,.aa] K:=
 iB (AJ (V0 c (Aa rfl e) T)) (X0 c (Aa rfl e) T g)
theorem TA(c:Code X G k){g:U}{v b:V}{r f:Addr}{M l:List V}
  (q:g a=some (.list M)\/g a=some (.tup M)) (m:g f=some (.list l)) (j:a≠f) (x:∀y∈M,jO y=false) (s:l.length+M.length<=1000000)
  (z:∀u o,g u=none->K .next ((g.set u (.tup [.typ "list",.typ "tuple"])).set f (.list (l++M.reverse))) [v,.ref r,.ref f,.ref a,o,.aa,.aa,.aa,.aa,.aa,.aa]) :
  CN X d G g [v,.ref r,.ref f,.ref a,b,.aa,.aa,.aa,.aa,.aa,.aa] K:=by
 refine AA (q.elim (fun e=>⟨_,.list _ e⟩) fun e=>⟨_,.tup _ e⟩:∃t,UZ g a t) fun t T=>iB (AJ (VZ c (Aa rfl rfl) T)) (YW c (Aa rfl rfl) T fun u i=>PC (M:=M) (Aa rfl rfl) ?_);have w:=fun ok n=>TB (X:=X) (d:=d) (ok:=ok) M.reverse 0 _ l b (Ah i m) n (Z da s) (fun y h=>x y (ky.mp h)) fun A=>z u A i;exact q.imp (fun e=>⟨Ah i e,w _ fun p=>by refine Z (U.aC _ _ j) ?_;exact Ah i e⟩) fun e=>⟨Ah i e,aI (ab (cy _ _) s) (dd rfl),w _ fun p=>by refine Z (U.aC _ _ j) ?_;exact Ah i e⟩
theorem Rv(c:Code X G k){w:U}{v x b:V}{r g:Addr}{D ad i:List V}{l:Nat}(P:Fl H k.N x i l)(q:aD H w)(z:w r=some (.list D))(A:w g=some (.list ad))
  (Q:H r=none) (m:H g=none) (E:r≠g) (L:D.length<=1000000) (R:ad.length+l<=1000000)
  (F:∀n y s o t p,aD H n->n r=some (.list s)->n g=some (.list (ad++y))->j7 H k.N y.reverse t p->s++t=D++i->p<l->K .next n [v,.ref r,.ref g,x,o,.aa,.aa,.aa,.aa,.aa,.aa]) :
  CN X d G w [v,.ref r,.ref g,x,b,.aa,.aa,.aa,.aa,.aa,.aa] K:=by
 have H':i=[]->0<l->∀u,w u=none->K .next (w.set u (.tup [.typ "list",.typ "tuple"])) [v,.ref r,.ref g,x,b,.aa,.aa,.aa,.aa,.aa,.aa]:=fun e h u C=>
  F _ [] D _ [] 0 (q.trans (aD.set C)) (Ah C z) (Z (aS ..) (Ah C A)) .nil (Z e rfl) h
 have xs:∀{a:Addr} {B:List V} {j:Nat},x=.ref a->j7 H k.N B i j->l=j+1->w a=some (.list B)\/w a=some (.tup B)->a≠g->CN X d G w [v,.ref r,.ref g,x,b,.aa,.aa,.aa,.aa,.aa,.aa] K:=fun{a B j} S h Ab T AH=>by
  rw[S]at F ⊢;exact TA c T A AH h.oW (ab (br (ab h.len (Ab▸ip _)) _) R) fun u o C=>
   F _ B.reverse D _ i j ((q.trans (aD.set C)).fH m) (Z (U.aC _ _ E) (Ah C z)) (U.ak ..) (Z (jv ..) h) rfl (Ab▸eK _)
 cases P with
 |@node a f e=>
  exact Dt (AJ (VQ c (Aa rfl rfl) (q _ _ e))) (Ib (Aa rfl rfl) z (sz L) (Aa rfl rfl) (F _ [] _ _ [] 0 (q.fH Q) (U.ak ..) (Z (U.aC _ _ E.symm) (Z (aS ..) A)) .nil (aS _) l5))
 |none=>exact DW c rfl .none (H' rfl l5)|bool b=>exact DW c rfl (.bool b) (H' rfl l5)|int b=>exact DW c rfl (.int b) (H' rfl l5)|str b=>exact DW c rfl (.str b) (H' rfl l5)|@list a B _ j e h=>exact xs rfl h rfl (.inl (q _ _ e)) (An m e)|@tup a B _ j e h=>exact xs rfl h rfl (.inr (q _ _ e)) (An m e)
inductive NI(H:U)(N:Addr)(v:V)(r aai:Addr)(ns:List V)(n n':Nat)(I:U)(m:List V):Prop where
 |mk (w fs ns':List V) (a b:V):m=[v,.ref r,.ref aai,a,b,.aa,.aa,.aa,.aa,.aa,.aa]->I r=some (.list fs)->I aai=some (.list w)->j7 H N w.reverse ns' n'->fs++ns'=ns->aD H I->n'<=n->NI H N v r aai ns n n' I m
variable{Q:V->U->Prop}
theorem Fv(c:Code X G k){v:V}{H':List V}(h:Fl H k.N v H' n)(ad:n<=1000000)
  (q:∀z r,aD H z->H r=none->z r=some (.list H')->Q (.ref r) z):aG X (d+1) H (G "nodes_of") [v] Q:=by
 refine c.jN.call rfl (Fh (AX A4 (bq _) fun r L=>AX (AG (Aa rfl h.qg)) (sz (dd rfl)) fun A f t K=>aV (AZ f) fun g B=>aV (AZ K) fun ws P=>Tx (NI H k.N v r A H' n) n ⟨[v],[],H',_,_,rfl,Ah K (Ah f (U.ak ..)),Ah K (U.ak ..),by have:=j7.cons h .nil;rwa [aS]at this,rfl,(aD.set L).trans ((aD.set f).trans (aD.set K)),ai _⟩ ?_));rintro n' z m ⟨w,rL,ns',a,b,rfl,R,C,i,j,S,l⟩;have s:=i.len;rw[da]at s;rcases nh w with e|⟨w',x,e⟩
 ·rw[e]at C i;cases i;rw[aS]at j;exact .stop (E7 c (Aa rfl rfl) C) (A9 (Aa rfl rfl) (q z r S L (j▸R)))
 ·refine .go (E8 c (Aa rfl rfl) C (sz (uH ad l s)) (by refine Z e ?_;simp)) ?_;rw[ny]at e;rw[e]at C i;rw[e,ba,h7]at s;rw[kX,List.reverse_singleton,sD]at i;cases i with
  |@cons _ _ xs u T D AH i=>
  refine U2 (Aa rfl rfl) C (qP (AdD ad l s)) ?_;have hn1:=AH.pos;have E:=i.len;rw[da]at E;have Ab:rL.length<=1000000:=by
   have:=h.out;rw[<-j,ba]at this;exact AdZ ad this
  refine Rv c AH (S.fH g) (Z (U.aC _ _ B.symm) R) (U.ak ..) L g B.symm Ab (wF ad l E) fun aj F y o ms p h1 h2 h3 h4 h5 W=>cJ (j1 W D) ?_;exact⟨w'++F,y,ms++u,_,_,rfl,h2,h3,by refine Z kX ?_;exact h4.app i,by refine Z (ap (ci ..)) (Z h5 (Z (ci ..) ?_));exact j,h1,by exact ym l W⟩
inductive T where
 |name (a:Addr) (x:String)
 |num (a:Addr)
 |var (a:Addr) (x:String) (i:Option Addr)
 |expr (a:Addr) (t:T)
 |func (a:Addr) (nm:Option String) (ps:List String) (body:List T) (strict decl:Bool)
 |tr (a:Addr) (block:List T) (x:String) (handler:List T)
 |prog (a:Addr) (body:List T)
noncomputable def T.aq:T->Addr
 |.name a _=>a|.num a=>a|.var a _ _=>a|.expr a _=>a|.func a ..=>a|.tr a ..=>a|.prog a _=>a
noncomputable def T.kind:T->String
 |.name ..=>"Name"|.num _=>"Num"|.var ..=>"Var"|.expr ..=>"Expr"|.func ..=>"Function"|.tr ..=>"Try"|.prog ..=>"Program"
abbrev rf(t:T):V:=.ref t.aq
abbrev cI(ts:List T):List V:=ts.map rf
noncomputable def zN:Option String->V
 |none=>.none
 |some x=>.str x
def sJ(a:Option String)(d:Bool):V:=if d then .str (a.getD "")else zN a
noncomputable def xn:Option Addr->V
 |none=>.none
 |some x=>.ref x
def bh(N:Addr)(H:U)(a:Addr)(c:String)(b:List V):Prop:=∃f p,H a=some (.inst N f)/\f .kind=.str c/\f .parts=.ref p/\H p=some (.list b)
mutual
def Rep(N:Addr)(H:U):T->Prop
 |.name a x=>bh N H a "Name" [.str x]
 |.num a=>bh N H a "Num" [.int 0]
 |.var a x i=>∃l p,bh N H a "Var" [.ref l]/\H l=some (.list [.ref p])/\H p=some (.tup [.str x,xn i])/\∀b,i=some b->bh N H b "Num" [.int 0]
 |.expr a t=>bh N H a "Expr" [rf t]/\Rep N H t
 |.func a j ps c s d=>∃f e,bh N H a "Function" [sJ j d,.ref f,.ref e,.bool s,.str (if d then "decl" else "expr")]/\H f=some (.list (ps.map .str))/\H e=some (.list (cI c))/\bA N H c
 |.tr a b x h=>∃e g,bh N H a "Try" [.ref e,.str x,.ref g,.none]/\H e=some (.list (cI b))/\H g=some (.list (cI h))/\bA N H b/\bA N H h
 |.prog a b=>∃e,bh N H a "Program" [.ref e,.bool false]/\H e=some (.list (cI b))/\bA N H b
def bA(N:Addr)(H:U):List T->Prop
 |[]=>True
 |t::ts=>Rep N H t/\bA N H ts
end
noncomputable def T.size(t:T):Nat:=T.rec (motive_1:=fun e=>Nat) (motive_2:=fun e=>Nat) (fun a x=>3) (fun a=>3) (fun a x i=>10) (fun a t c=>3+c) (fun a x f b s d c=>10+f.length+c) (fun a b x h i j=>10+i+j) (fun a b c=>10+c) 0 (fun t g i j=>i+j) t
noncomputable def AS(t:List T):Nat:=T.rec_1 (motive_1:=fun e=>Nat) (motive_2:=fun e=>Nat) (fun a x=>3) (fun a=>3) (fun a x i=>10) (fun a t c=>3+c) (fun a x f b s d c=>10+f.length+c) (fun a b x h i j=>10+i+j) (fun a b c=>10+c) 0 (fun t g i j=>i+j) t
theorem Tp{t:T}:(T.expr a t).size=3+t.size:=rfl
theorem Sb{x:String}{b h:List T}:(T.tr a b x h).size=10+AS b+AS h:=rfl
theorem T2{b:List T}:(T.prog a b).size=10+AS b:=rfl
variable{ts:List T}
theorem C8{t:T}:AS (t::ts)=t.size+AS ts:=rfl
theorem T.jB(t:T):3<=t.size:=by
 cases t with
 |name=>exact ai _|num=>exact ai _|var=>exact(dd rfl)|expr=>exact bp _ _|func=>exact ab (dd rfl) (ab (bp _ _) (bp _ _))|tr=>exact ab (dd rfl) (ab (bp _ _) (bp _ _))|prog=>exact ab (dd rfl) (bp _ _)
theorem A3(ts:List T):ts.length<=AS ts:=by
 induction ts with
 |nil=>exact ai _|cons t ts a=>refine Z C8 (Z d4 (Z (ds ..) ?_));exact cc (ab (dd rfl) t.jB) a
theorem GS(ts us:List T):AS (ts++us)=AS ts+AS us:=by
 induction ts with
 |nil=>exact(df _).symm|cons t ts a=>exact Z qf (Z C8 (Z a (Z C8 (Z (dn ..) rfl))))
theorem bA.app{us:List T}:bA N H (ts++us)↔bA N H ts/\bA N H us:=by
 induction ts with
 |nil=>exact⟨fun h=>⟨trivial,h⟩,fun h=>h.2⟩|cons t ts a=>exact⟨fun h=>⟨⟨h.1,(a.mp h.2).1⟩,(a.mp h.2).2⟩,fun h=>⟨h.1.1,a.mpr ⟨h.1.2,h.2⟩⟩⟩
theorem bA.mem{t:T}(h:bA N H ts)(m:t∈ts):Rep N H t:=by
 induction ts with
 |nil=>cases m
 |cons u ts a=>
  rcases ED m with rfl|m
  ·exact h.1
  ·exact a h.2 m
structure Base(N:Addr)(H I:U):Prop where
 node:∀a f,H a=some (.inst N f)->∃f',I a=some (.inst N f')/\∀j,j≠.scope->f' j=f j
 oth:∀a o,H a=some o->(∀f,o≠.inst N f)->I a=some o
theorem Base.refl(N:Addr)(H:U):Base N H H:=⟨fun a f e=>⟨f,e,fun z z=>rfl⟩,fun z z e z=>e⟩
theorem Base.trans{d H'':U}(h:Base N H d)(g:Base N d H''):Base N H H'':=⟨fun a f e=>by
 refine Ad (h.node a f e) fun k l q=>Ad (g.node a k l) fun b c m=>?_;exact⟨b,c,fun j i=>(m j i).trans (q j i)⟩,fun a o e n=>g.oth a o (h.oth a o e n) n⟩
theorem aD.base{I:U}(h:aD H I):Base N H I:=⟨fun a f e=>⟨f,h a _ e,fun z z=>rfl⟩,fun a o e z=>h a o e⟩
theorem Base.list{b:U}(h:Base N H b){M:List V}(e:H a=some (.list M)):b a=some (.list M):=h.oth a _ e fun f z=>nomatch z
theorem Base.tup{b:U}(h:Base N H b){M:List V}(e:H a=some (.tup M)):b a=some (.tup M):=h.oth a _ e fun f z=>nomatch z
theorem Base.bF{b:U}(h:Base N H b){c:String}{ps:List V}(n:bh N H a c ps):bh N b a c ps:=AN (n) fun f p e d g i=>Ad (h.node a f e) fun j k q=>⟨j,p,k,(q _ (dd rfl)).trans d,(q _ (dd rfl)).trans g,h.list i⟩
theorem Rep.base{m:U}(h:Base N H m){t:T}:Rep N H t->Rep N m t:=T.rec (motive_1:=fun t=>Rep N H t->Rep N m t) (motive_2:=fun t=>bA N H t->bA N m t) (fun a x r=>h.bF r) (fun a r=>h.bF r)
 (fun a x i r=>AN r fun l p r e f g=>⟨l,p,h.bF r,h.list e,h.tup f,fun b q=>h.bF (g b q)⟩) (fun a t j r=>⟨h.bF r.1,j r.2⟩) (fun a x y b s d j r=>AN r fun u k r e f g=>⟨u,k,h.bF r,h.list e,h.list f,j g⟩)
 (fun a b x c n o r=>DA r fun k v r e f g w=>⟨k,v,h.bF r,h.list e,h.list f,n g,o w⟩) (fun a b j r=>Az r fun k r e f=>⟨k,h.bF r,h.list e,j f⟩) (fun r=>r) (fun t z n o r=>⟨n r.1,o r.2⟩) t
theorem bA.base{a:U}(h:Base N H a){t:List T}:bA N H t->bA N a t:=fq (fun r=>r) (fun t c b r=>⟨r.1.base h,b r.2⟩) t
theorem Rep.ext{a:U}(h:aD H a){t:T}(r:Rep N H t):Rep N a t:=r.base h.base
theorem bA.ext{a:U}(h:aD H a){t:List T}(r:bA N H t):bA N a t:=r.base h.base
theorem Rep.node{t:T}(r:Rep N H t):∃ps,bh N H t.aq t.kind ps:=by
 cases t with
 |name a x=>exact⟨_,r⟩|num a=>exact⟨_,r⟩|var a x i=>refine AQ r fun z z r z=>?_;exact⟨_,r⟩
 |expr a t=>exact⟨_,r.1⟩|func=>refine AQ r fun z z r z=>?_;exact⟨_,r⟩
 |tr=>refine AQ r fun z z r z=>?_;exact⟨_,r⟩
 |prog=>refine Ad r fun z r z=>?_;exact⟨_,r⟩
theorem Rep.at{t:T}(r:Rep N H t):∃f,H t.aq=some (.inst N f)/\f .kind=.str t.kind:=
 let⟨_,f,_,e,a,_⟩:=r.node
 ⟨f,e,a⟩
theorem bA.pg(r:bA N H ts):j7 H N (cI ts) (cI ts) ts.length:=by
 induction ts with
 |nil=>exact .nil|cons t ts a=>
  refine Ad r.1.at fun f e z=>?_;have:=j7.cons (Fl.node e) (a r.2);rwa [ds]at this
theorem bA.fl(r:bA N H ts)(e:H l=some (.list (cI ts))):Fl H N (.ref l) (cI ts) (ts.length+1):=.list e r.pg
noncomputable def T.inner:T->List T
 |.name ..=>[]
 |.num ..=>[]
 |.var _ _ i=>(i.map T.num).toList
 |.expr _ t=>[t]
 |.func ..=>[]
 |.tr _ b _ h=>b++h
 |.prog _ b=>b
noncomputable def T.cL:T->Bool
 |.func ..=>true
 |.name ..=>false
 |.num ..=>false
 |.var ..=>false
 |.expr ..=>false
 |.tr ..=>false
 |.prog ..=>false
theorem bh.fl{c:String}{ps b:List V}(h:bh N H a c ps)(q:j7 H N ps b n):∃f p,H a=some (.inst N f)/\f .parts=.ref p/\Fl H N (.ref p) b (n+1):=
 let⟨f,p,e,_,d,g⟩:=h
 ⟨f,p,e,d,.list g q⟩
theorem inn{b:List V}{z:Nat}{P:Prop}(p:P)(h:∃f p,H a=some (.inst N f)/\f .parts=.ref p/\Fl H N (.ref p) b n)(q:n<=z):P/\∃f p n,H a=some (.inst N f)/\f .parts=.ref p/\Fl H N (.ref p) b n/\n<=z:=
 let⟨f,c,e,d,g⟩:=h
 ⟨p,f,c,n,e,d,g,q⟩
theorem Rep.inner{t:T}(r:Rep N H t)(hf:t.cL=false):bA N H t.inner/\∃f p n,H t.aq=some (.inst N f)/\f .parts=.ref p/\Fl H N (.ref p) (cI t.inner) n/\n<=t.size+10:=by
 cases t with
 |name a x=>exact inn trivial (r.fl (.cons (.str x) .nil)) (dd rfl:2<=13)|num a=>exact inn trivial (r.fl (.cons (.int 0) .nil)) (dd rfl:2<=13)|var a x i=>
  obtain⟨l,tp,r,h1,h2,h3⟩:=r;cases i with
  |none=>exact inn trivial (r.fl (.cons (.list h1 (.cons (.tup h2 (.cons (.str x) (.cons .none .nil))) .nil)) .nil)) (dd rfl:5<=20)|some b=>
   obtain⟨f',_,e',_⟩:=h3 b rfl;exact inn ⟨h3 b rfl,trivial⟩ (r.fl (.cons (.list h1 (.cons (.tup h2 (.cons (.str x) (.cons (.node e') .nil))) .nil)) .nil)) (dd rfl:5<=20)
 |expr a t=>
  exact Ad r.2.at fun f' e' z=>inn ⟨r.2,trivial⟩ (r.1.fl (.cons (.node e') .nil)) (ab (dd rfl) (cy _ _))
 |func=>cases hf
 |tr a b x h=>
  refine DA r fun bl hl r h1 h2 h3 h4=>?_;have:=r.fl (.cons (h3.fl h1) (.cons (.str x) (.cons (h4.fl h2) (.cons .none .nil))));simp only[ki,aS,<-bP]at this;exact inn (bA.app.mpr ⟨h3,h4⟩) this (by have:=A3 b;have:=A3 h;refine Z Sb ?_;lia)
 |prog a b=>
  refine Az r fun bl r h1 h2=>?_;have:=r.fl (.cons (h2.fl h1) (.cons (.bool false) .nil));simp only[aS]at this;exact inn h2 this (by have:=A3 b;refine Z T2 ?_;exact wB this)
theorem sW{a b:Nat}(h:a<=b):a+1<=10+b:=yW h
theorem ZW{a b c:Nat}(h:a<=b+c):a+1<=10+b+c:=Ael h
theorem Mz(t:T):AS t.inner+1<=t.size:=by
 cases t with
 |name=>exact(dd rfl)|num=>exact(dd rfl)|var a x i=>cases i with
  |none=>exact(dd rfl)|some b=>exact(dd rfl)
 |expr a t=>show t.size+0+1<=3+t.size;exact Z (ds 3 ..) (br (dd rfl) _)
 |func=>exact ab (dd rfl) (ab (bp _ _) (bp _ _))|tr a b x h=>show AS (b++h)+1<=_;exact Z (GS ..) (ZW (ai _))
 |prog a b=>exact sW (ai _)
noncomputable def T.own(t:T):List T:=T.rec (motive_1:=fun e=>List T) (motive_2:=fun e=>List T) (fun a x=>[.name a x]) (fun a=>[.num a]) (fun a x i=>.var a x i::(i.map T.num).toList) (fun a t c=>.expr a t::c) (fun a x f b s d c=>[.func a x f b s d]) (fun a b x h i j=>.tr a b x h::(i++j)) (fun a b c=>.prog a b::c) [] (fun t g i j=>i++j) t
noncomputable def Cs(t:List T):List T:=T.rec_1 (motive_1:=fun e=>List T) (motive_2:=fun e=>List T) (fun a x=>[.name a x]) (fun a=>[.num a]) (fun a x i=>.var a x i::(i.map T.num).toList) (fun a t c=>.expr a t::c) (fun a x f b s d c=>[.func a x f b s d]) (fun a b x h i j=>.tr a b x h::(i++j)) (fun a b c=>.prog a b::c) [] (fun t g i j=>i++j) t
theorem E2{t:T}:Cs (t::ts)=t.own++Cs ts:=rfl
theorem IK(ts us:List T):Cs (ts++us)=Cs ts++Cs us:=by
 induction ts with
 |nil=>rfl|cons t ts a=>exact Z qf (Z E2 (Z a (Z E2 (Z (ci ..) rfl))))
theorem Aau(t:T):t.own=t::(if t.cL then[]else Cs t.inner):=by
 cases t with
 |var a x i=>cases i<;>rfl
 |tr a b x h=>exact congrArg (List.cons _) (IK b h).symm|expr a t=>exact congrArg (List.cons _) (aS _).symm|_=>rfl
theorem Y2{t:T}:Rep N H t->bA N H t.own:=T.rec (motive_1:=fun t=>Rep N H t->bA N H t.own) (motive_2:=fun t=>bA N H t->bA N H (Cs t)) (fun a x r=>⟨r,trivial⟩) (fun a r=>⟨r,trivial⟩)
 (fun a x i=>gL i (fun r=>⟨r,trivial⟩) fun b r=>⟨r,AN r fun l p h j k q=>q b rfl,trivial⟩) (fun a t e r=>⟨r,e r.2⟩) (fun a x o b s d e r=>⟨r,trivial⟩) (fun a b x c f g r=>⟨r,DA r fun l p h j k m n=>bA.app.mpr ⟨f m,g n⟩⟩)
 (fun a b e r=>⟨r,Az r fun l h j q=>e q⟩) (fun r=>r) (fun t u f g r=>bA.app.mpr ⟨f r.1,g r.2⟩) t
theorem PJ{t:List T}:bA N H t->bA N H (Cs t):=fq (fun r=>r) (fun t b a r=>bA.app.mpr ⟨Y2 r.1,a r.2⟩) t
theorem Yk(t:T):t.own.length<=t.size:=T.rec (motive_1:=fun t=>t.own.length<=t.size) (motive_2:=fun t=>(Cs t).length<=AS t) (fun a x=>(dd rfl)) (fun a=>(dd rfl))
 (fun a x i=>gL i (dd rfl) fun b=>(dd rfl)) (fun a t e=>Z Tp (Z (ds ..) (cc e (dd rfl)))) (fun a x h b s d e=>ab (dd rfl) (ab (bp _ _) (bp _ _)))
 (fun a b x c f g=>ZW (Z ba (cc f g))) (fun a b e=>sW e) (ai _) (fun t j f g=>Z E2 (Z ba (Z C8 (cc f g)))) t
theorem IN(ts:List T):(Cs ts).length<=AS ts:=fq (ai _) (fun t ts a=>Z E2 (Z ba (Z C8 (cc (Yk t) a)))) ts
variable{f:At->V}{x:Addr}{j:At}{v:V}{t:T}{kd s:String}{ps m:List V}{A:WE}{b:Bool}
theorem Code.fN(c:Code X G k)(e:H x=some (.inst k.N f))(q:f j=v)(u:jO v=false)(b:mO v=false):mG X H x j v:=.mk _ f e c.nA q u b
theorem Code.fS(c:Code X G k)(e:H x=some (.inst k.S f))(q:f j=v)(u:jO v=false)(b:mO v=false):mG X H x j v:=.mk _ f e c.jb q u b
theorem Code.fC(c:Code X G k)(e:H x=some (.inst k.C f))(q:f j=v)(u:jO v=false)(b:mO v=false):mG X H x j v:=.mk _ f e c.mz q u b
theorem Code.fB(c:Code X G k)(e:H x=some (.inst k.B f))(q:f j=v)(u:jO v=false)(b:mO v=false):mG X H x j v:=.mk _ f e c.oA q u b
theorem bh.kdF(n:bh k.N H x kd ps)(c:Code X G k):mG X H x .kind (.str kd):=n.elim fun f h=>h.elim fun p h=>c.fN h.1 h.2.1 rfl rfl
theorem bh.part(n:bh k.N H x kd ps)(c:Code X G k){i:Int}(a:Pv A H m (.ref x))(b:ps[i.toNat]?=some v)(w:Pp i=true):Pv (Ax (Aj X .parts A) (Ae (.int i))) H m v:=
 n.elim fun f h=>h.elim fun p h=>BR (Am a (c.fN h.1 h.2.2.1 rfl rfl)) h.2.2.2 b w
theorem Rep.test(r:Rep k.N H t)(c:Code X G k)(a:Pv A H m (rf t))(w:decide (t.kind=s)=b):cP (Ap X .Eq (Aj X .kind A) (Ae (.str s))) H m b:=
 r.node.elim fun z n=>aB (Am a (n.kdF c)) Af (congrArg some w)
theorem Rep.qd(r:Rep k.N H t)(c:Code X G k)(a:Pv A H m (rf t))(w:decide (t.kind=s)=b):cP (Ap X .NotEq (Aj X .kind A) (Ae (.str s))) H m (!b):=
 r.node.elim fun z n=>aB (Am a (n.kdF c)) Af (congrArg (fun b=>some !b) w)
theorem Rep.mU(r:Rep k.N H t)(c:Code X G k)(a:Pv A H m (rf t))(w:decide (t.kind=s)=b):Pv (Cu X .Eq (Aj X .kind A) (Ae (.str s))) H m (.bool b):=
 r.node.elim fun z n=>Eu (Am a (n.kdF c)) Af (congrArg some w)
theorem S7(t:T):decide (t.kind="Function")=t.cL:=by
 cases t<;>rfl
theorem KY{j:Nat}{x:V}(h:(cI ts)[j]?=some x):∃t,ts[j]?=some t/\rf t=x/\t∈ts:=by
 rw[b9]at h;cases e:ts[j]? with
 |none=>rw[e]at h;cases h
 |some t=>rw[e]at h;exact⟨t,rfl,ag h,ay e⟩
theorem GC(ts:List T)(t:T):cI ts++[rf t]=cI (ts++[t]):=(bP (l₂:=[t])).symm
theorem AK{a:Type}{ts:List a}{j:Nat}{t:a}(h:ts[j]?=some t):ts.take (j+1)=ts.take j++[t]:=by refine Z List.take_add_one (Z h ?_);rfl
theorem DL(c:Code X G k)(e:H l=some (.list (cI ts)))(h:bA k.N H ts)(b:ts.length<=100000)
  (q:∀a r,aD H a->H r=none->a r=some (.list (cI ts))->Q (.ref r) a):aG X (d+1) H (G "nodes_of") [.ref l] Q:=
 Fv c (h.fl e) (xV b) q
theorem OK(c:Code X G k)
  (q:∀a r,aD H a->H r=none->a r=some (.list [])->Q (.ref r) a):aG X (d+1) H (G "nodes_of") [.none] Q:=
 Fv c .none (n9 rfl) q
theorem Hn(c:Code X G k)(h:Rep k.N H t)(g:t.cL=false)(i:t.size<=100000)
  (q:∀a r,aD H a->H r=none->a r=some (.list (cI t.inner))->Q (.ref r) a):aG X (d+2) H (G "inner_nodes") [rf t] Q:=
 aV (h.inner g) fun z j=>B6 j fun f p n e l b m=>c.gW.call rfl (Bh (Ao (AG (Am (Aa rfl rfl) (c.fN e l rfl rfl))) (Fv c b (ab m (ab (cK i 10) (dd rfl))) q) (ai _)))
theorem OP(h:AS ts<=n):(cI ts).length<=n:=by refine Z (ac ..) ?_;exact ab (A3 ts) h
theorem Fn(ts:List T):(cI ts).reverse=cI ts.reverse:=List.map_reverse.symm
theorem Tu :(cI (t::ts)).reverse=cI ts.reverse++[rf t]:=by refine Z (ap (Fn ..)) ?_;exact i8
theorem Jh{d:Type}{a b c:List d}(h:a++b=c):a.length<=c.length:=by refine Z (ap h) (Z ba ?_);exact bp _ _
inductive ZM(H:U)(k:fW)(l:Addr)(ts:List T)(r aai:Addr)(n':Nat)(I:U)(m:List V):Prop where
 |mk:∀us fs b,(m=[.ref l,.ref r,.ref aai,b,.aa,.aa,.aa])->(I r=some (.list (cI fs)))->(I aai=some (.list (cI us.reverse)))->(bA k.N H us)->(fs++Cs us=Cs ts)->(aD H I)->(n'=AS us)->(n'<=50000)->ZM H k l ts r aai n' I m
theorem Kd(c:Code X G k)(e:H l=some (.list (cI ts)))(h:bA k.N H ts)(S:AS ts<=50000)
  (q:∀I r,aD H I->H r=none->I r=some (.list (cI (Cs ts)))->Q (.ref r) I):aG X (d+3) H (G "own_nodes") [.ref l] Q:=by
 refine c.jo.call rfl (Fh (AX A4 (bq _) fun r C=>KV (Ao (AG (Aa rfl rfl)) (DL c (Ah C e) (h.ext (aD.set C)) (ab (A3 ts) (ab S (dd rfl)))
  fun I D W hr0 h0=>⟨D,_,rfl,h0,sz (ab (OP S) (dd rfl)),fun a f u ws=>?_⟩) (dd rfl))))
 have v:a≠r:=fun z=>by rw[z,W r _ (U.ak ..)]at f;cases f
 have E:aD H I:=(aD.set C).trans W;have F:=E.none f;refine Tx (ZM H k l ts r a) (AS ts) ⟨ts,[],_,rfl,Ah ws (Ah f (W _ _ (U.ak ..))),Ah ws (Z (U.ak ..) (Z (Fn ..) rfl)),h,rfl,E.trans ((aD.set f).trans (aD.set ws)),rfl,S⟩ ?_;rintro n' i m ⟨us,n,b,rfl,hf,H',ad,p,K,hn,g⟩;rw[hn]at g ⊢;cases us with
 |nil=>
  rw[show Cs []=[]from rfl,aS]at p;exact .stop (E7 c (Aa rfl rfl) H') (A9 (Aa rfl rfl) (q i r K C (p▸hf)))
 |cons t us=>
  have L:=OP g;have rL:n.length<=50000:=ab (Jh p) (ab (IN ts) S);rw[<-Fn]at H';refine .go (E8 c (Aa rfl rfl) H' (sz (Z da (ab L (dd rfl)))) (by simp)) ?_;rw[Tu]at H';rw[C8]at g ⊢;refine U2 (Aa rfl rfl) H' (qP (Z (ap (Fn ..)) (Z da (ab (ip _) (ab L (dd rfl)))))) ?_;have hE1:aD H (i.set a (.list (cI us.reverse))):=K.fH F;have hf1:(i.set a (.list (cI us.reverse))) r=some (.list (cI n)):=by refine Z (U.aC _ _ v.symm) ?_;exact hf
  refine NE (Aa rfl rfl) hf1 (sz (Z (ac ..) (ab rL (dd rfl)))) (Aa rfl rfl) ?_;have s:=hE1.fH (o:=.list (cI n++[rf t])) C;have w:((i.set a (.list (cI us.reverse))).set r (.list (cI n++[rf t]))) a=some (.list (cI us.reverse)):=by exact Z (U.aC _ _ v) (Z (U.ak ..) rfl)
  have xs:=GC n t;have j:(n++[t])++((if t.cL then[]else Cs t.inner)++Cs us)=Cs ts:=by
   refine Z (ap p) (Z E2 (Z (Aau t) (Z (ci ..) ?_)));rfl
  have AH:=(ad.1.ext s).qd c (A:=O 3) (m:=[.ref l,.ref r,.ref a,rf t,.aa,.aa,.aa]) (Aa rfl rfl) (S7 t);have htp:=t.jB;cases aj:t.cL with
  |true=>
   rw[aj]at j AH;exact BJ AH (cJ (m1 (bv (dd rfl) htp)) ⟨us,n++[t],_,rfl,by exact Z (U.ak ..) (Z xs rfl),w,ad.2,j,s,rfl,ab (cy _ _) g⟩)
  |false=>
   rw[aj]at j AH;have x:=Mz t;refine Dt AH (Wp (Aa rfl rfl) w (KV (Ao (AG (Aa rfl rfl)) (Hn c (ad.1.ext s) aj (AeJ g) fun Ab P y h30 h31=>⟨P,_,rfl,h31,sz (by refine Z (ac ..) ?_;have:=A3 t.inner;exact zY g x this),fun R B=>?_⟩) (dd rfl))));have hw3:=Ah (o:=.list (cI t.inner).reverse) B (y _ _ w);have hf3:(Ab.set R (.list (cI t.inner).reverse)) r=some (.list (cI n++[rf t])):=Ah B (y _ _ (U.ak ..));have ez:AS (t.inner++us)<t.size+AS us:=Z (GS ..) (j1 x _);refine dI hw3 (U.ak ..) (sz (by refine Z da (Z (ac ..) (Z (ac ..) (Z da ?_)));have h:=A3 us;exact ab (cc h (ab (A3 t.inner) (dk x))) (ab (ct (ds ..)) (ab g (dd rfl))))) (cJ ez ⟨t.inner++us,n++[t],_,rfl,?_,?_,bA.app.mpr ⟨(ad.1.inner aj).1,ad.2⟩,?_,?_,rfl,ab (dk ez) g⟩)
   ·exact Z (U.aC _ _ v.symm) (Z hf3 (Z xs rfl))
   ·exact Z (U.ak ..) (Z (Fn ..) (Z (ap bP) (Z kX rfl)))
   ·exact Z (IK ..) j
   ·exact aD.fH ((s.trans y).trans (aD.set B)) F
theorem AW{c:Nat->V->U->List V->Option (List V)}{a:U->List V->(bu->U->List V->Prop)->Prop}{Q:bu->U->List V->Prop}{items:List V}
  (H':Nat->U->List V->Prop)
  (step:∀j x H m,items[j]?=some x->H' j H m->ok H/\∃m',c j x H m=some m'/\∀K:bu->U->List V->Prop,(∀b m',H' (j+1) b m'->K .next b m')->(∀v b m',Q (.ret v) b m'->K (.ret v) b m')->a H m' K)
  (f:∀H m,H' items.length H m->ok H/\Q .next H m) (h:H' 0 H m):forL c ok a Q 0 items H m:=by
 have g:∀(n:Nat) (l:List V) (j:Nat) (H:U) (m:List V),items.drop j=l->j<=items.length->l.length=n->H' j H m->forL c ok a Q j l H m:=by
  intro n;induction n with
  |zero=>
   intro l j H m d p e i;obtain rfl:=gg.mp e;have:=kM.mp d;obtain rfl:j=items.length:=by exact io p this
   exact f H m i
  |succ n s=>
   intro l j H m d p e i;cases l with
   |nil=>cases e
   |cons x l=>
    have r:items[j]?=some x:=by
     have:=congrArg (fun l=>l[0]?) d;simpa using this
    have k:=(av.mp r).1;refine Cr (step j x H m r i) fun t m' u w=>⟨t,m',u,w _ (fun b m' o=>s l (j+1) b m' (Z (ap rd) (Z d ?_)) k (by simpa using e) o) fun v b m' q=>q⟩;rfl
 exact g _ items 0 H m rfl (bq _) rfl h
theorem NN{e:Nat->V->U->List V->Option (List V)}{a:U->List V->(Bool->U->Prop)->Prop}{f:U->List V->(V->U->Prop)->Prop}{Q:List V->U->Prop}{items:List V}
  (H':Nat->List V->U->List V->Prop)
  (step:∀j x acc H m,items[j]?=some x->H' j acc H m->ok H/\∃m',e j x H m=some m'/\∀(s:V->U->Prop) (t:U->Prop),(∀y c,H' (j+1) (acc++[y]) c m'->s y c)->(∀c,H' (j+1) acc c m'->t c)->a H m' fun b d=>if b then f d m' s else t d)
  (p:∀acc H m,H' items.length acc H m->ok H/\Q acc H) (h:H' 0 [] H m):cN e ok a f Q 0 [] items H m:=by
 have q:∀(n:Nat) (l:List V) (j:Nat) (acc:List V) (H:U) (m:List V),items.drop j=l->j<=items.length->l.length=n->H' j acc H m->cN e ok a f Q j acc l H m:=by
  intro n;induction n with
  |zero=>
   intro l j acc H m o u i r;obtain rfl:=gg.mp i;have:=kM.mp o;obtain rfl:j=items.length:=by exact io u this
   exact p acc H m r
  |succ n v=>
   intro l j acc H m o u i r;cases l with
   |nil=>cases i
   |cons x l=>
    have w:items[j]?=some x:=by
     have:=congrArg (fun l=>l[0]?) o;simpa using this
    have k:=(av.mp w).1;refine Cr (step j x acc H m w r) fun A m' B C=>?_;have z:items.drop (j+1)=l:=by refine Z (ap rd) (Z o ?_);rfl
    exact⟨A,m',B,C _ _ (fun y c g=>v l (j+1) _ c m' z k (by simpa using i) g) fun c g=>v l (j+1) _ c m' z k (by simpa using i) g⟩
 exact q _ items 0 [] H m rfl (bq _) rfl h
theorem Rb{f:V->Option Bool}{x:V}{M:List V}:B0 f (x::M)=(match f x,B0 f M with|some a,some b=>some (a||b)|_,_=>none):=rfl
variable{cm:Addr->Bool}{M:List String}
theorem NV{x:String}:B0 (fun y=>dK cm H (n+1) y (.str x)) (M.map .str)=some (decide (x∈M)):=by
 induction M with
 |nil=>rfl|cons y M a=>
  have e:B0 (fun y=>dK cm H (n+1) y (.str x)) ((y::M).map .str)=some (decide (y=x)||decide (x∈M)):=Z dr (Z Rb (Z a rfl));refine Z e ?_;simp[bg,eq_comm]
noncomputable def AE(M:List String)(x:String):List String:=if x∈M then M else M++[x]
def G1(M:List String):List String:=M.foldl AE []
theorem SE{x:String}(e:H l=some (.list (M.map .str))):Bv cm H .NotIn (.str x) (.ref l)=some (!decide (x∈M)):=Z SD (Z LM (Z e (congrArg (qv _) NV)))
theorem sX{x:String}(e:H l=some (.list (M.map .str)))(h:x∉M):Bv cm H .NotIn (.str x) (.ref l)=some true:=(SE e).trans (congrArg (fun b=>some !b) (decide_eq_false h))
theorem tU{x:String}(e:H l=some (.list (M.map .str)))(h:x∈M):Bv cm H .NotIn (.str x) (.ref l)=some false:=(SE e).trans (congrArg (fun b=>some !b) (decide_eq_true h))
theorem DO{x:String}(h:x∈M):AE M x=M:=if_pos h
theorem BW{x:String}(h:x∉M):AE M x=M++[x]:=if_neg h
theorem Fx(c:Code X G k){x:String}(e:H l=some (.list (M.map .str)))(a:M.length<=100000)
  (q:Q .none (H.set l (.list ((AE M x).map .str)))):aG X (d+1) H (G "add_once") [.ref l,.str x] Q:=by
 refine c.jK.call rfl ?_;by_cases h:x∈M
 ·rw[DO h,EZ e]at q;exact BJ (aB (Aa rfl rfl) (Aa rfl rfl) (tU e h)) q
 ·rw[BW h,bP]at q;exact Dt (aB (Aa rfl rfl) (Aa rfl rfl) (sX e h)) (Ib (Aa rfl rfl) e (sz (Z (ac ..) (ab a (dd rfl)))) (Aa rfl rfl) q)
noncomputable def T.vars:T->List String
 |.var _ x _=>[x]
 |.name ..=>[]
 |.num ..=>[]
 |.expr ..=>[]
 |.func ..=>[]
 |.tr ..=>[]
 |.prog ..=>[]
def aF(ts:List T):List String:=G1 ((Cs ts).flatMap T.vars)
theorem JT(M:List String)(x:String):(AE M x).length<=M.length+1:=by
 by_cases h:x∈M
 ·exact Z (DO h) (ip _)
 ·exact Z (BW h) (Z ba (ai _))
theorem EM(ys:List String):∀(M:List String),(ys.foldl AE M).length<=M.length+ys.length:=by
 induction ys with
 |nil=>exact fun M=>ai _
 |cons y ys a=>intro M;exact Z qB (Z d4 (ab (a (AE M y)) (ab (cK (JT M y) _) (ct (iv ..)))))
theorem Qz{x y:String}:y∈AE M x↔y∈M\/y=x:=by
 by_cases h:x∈M
 ·exact Z (DO h) ⟨.inl,fun z=>z.elim id fun z=>z▸h⟩
 ·exact Z (BW h) (Z (propext bX) (Z (propext al) Iff.rfl))
variable{ys:List String}
theorem fX :∀{M:List String} {y:String},y∈ys.foldl AE M↔y∈M\/y∈ys:=by
 induction ys with
 |nil=>exact fun{M y}=>⟨.inl,fun h=>h.elim id nofun⟩
 |cons z ys a=>intro M y;exact Z qB (Z (propext a) (Z (propext Qz) (Z (propext bg) (Z (propext or_assoc) Iff.rfl))))
theorem jZ{y:String}:y∈G1 ys↔y∈ys:=fX.trans ⟨fun h=>h.elim nofun id,.inr⟩
theorem Na{x:String}(h:M.Nodup):(AE M x).Nodup:=by
 by_cases q:x∈M
 ·exact Z (DO q) h
 ·exact Z (BW q) (Z (propext eM) ⟨h,cr.mpr ⟨nofun,d0⟩,fun a c b d z=>q (by rw[<-Bb d,<-z]at *;exact c)⟩)
theorem DV :∀{M:List String},M.Nodup->(ys.foldl AE M).Nodup:=by
 induction ys with
 |nil=>intro M h;exact h
 |cons z ys a=>intro M h;exact a (Na h)
theorem VS(t:T):t.vars.length<=1:=by
 cases t with
 |var=>exact ai _|_=>exact bq _
theorem HT(ts:List T):(ts.flatMap T.vars).length<=ts.length:=by
 induction ts with
 |nil=>exact ai _|cons t ts a=>refine Z List.flatMap_cons (Z ba (Z d4 (Z (ds ..) ?_)));exact cc a (VS t)
theorem NO(ys:List String):(G1 ys).length<=ys.length:=ab (EM ys []) (ct (df _))
theorem RY(M ys:List String):G1 (M++ys)=ys.foldl AE (G1 M):=ja
inductive ZG(H:U)(l:Addr)(ts:List T)(r ro:Addr)(j:Nat)(aaa:U)(m:List V):Prop where
 |mk:∀b b3 b4,(m=[.ref l,.ref r,b,b3,b4,.aa,.aa])->(aD H aaa)->(aaa ro=some (.list (cI (Cs ts))))->(aaa r=some (.list ((G1 (((Cs ts).take j).flatMap T.vars)).map .str)))->ZG H l ts r ro j aaa m
theorem Gc(c:Code X G k)(e:H l=some (.list (cI ts)))(h:bA k.N H ts)(Ab:AS ts<=50000)
  (q:∀I r,aD H I->H r=none->I r=some (.list ((aF ts).map .str))->Q (.ref r) I):aG X (d+4) H (G "var_names") [.ref l] Q:=by
 refine c.jl.call rfl (AL (AX A4 (bq _) fun r o=>MB (Ao (AG (Aa rfl rfl)) (Kd c (Ah o e) (h.ext (aD.set o)) Ab fun I D P u R=>?_) (dd rfl))));have E:aD H I:=(aD.set o).trans P;have F:D≠r:=fun z=>by rw[z,U.ak]at u;cases u
 refine⟨D,_,rfl,R,AW (ZG H l ts r D) ?_ ?_ ⟨_,_,_,rfl,E,R,P _ _ (U.ak ..)⟩⟩
 ·rintro j x g m hx ⟨b,S,AH,rfl,f,v,B⟩;refine⟨v,_,rfl,fun K aj Y=>(Az (KY hx) fun t ht H' ad=>?_)⟩;subst H';have W:=(PJ h).mem ad;have ws:G1 (((Cs ts).take (j+1)).flatMap T.vars)=t.vars.foldl AE (G1 (((Cs ts).take j).flatMap T.vars)):=by exact Z (AK ht) (Z tq (Z (RY ..) (Z (List.flatMap_singleton ..) rfl)))
  have rL:=fun b w=>(W.ext f).test (s:="Var") (b:=b) c (A:=O 2) (m:=[.ref l,.ref r,rf t,S,AH,.aa,.aa]) (Aa rfl rfl) w;cases t with
  |var a y i=>
   refine AN W fun l' p n L h2 h3=>?_;have xs:(G1 (((Cs ts).take j).flatMap T.vars)).length<=100000:=ab (NO _) (ab (HT _) (ab (jS ..) (ab (IN ts) (ab Ab (dd rfl)))));have C:aD H (g.set r (.list ((AE (G1 (((Cs ts).take j).flatMap T.vars)) y).map .str))):=f.fH o;refine Dt (rL _ rfl) (Lo ((f.base.bF n).part c (Aa rfl rfl) rfl rfl) (f _ _ L) ⟨f _ _ L,_,by unfold Bc;dsimp only;refine Z (f _ _ h2) ?_;rfl,Gj (Ao (AD (Aa rfl rfl) (Aa rfl rfl)) (Fx c B xs ?_) (dd rfl))⟩);refine⟨C _ _ L,aj _ _ ⟨_,_,_,rfl,C,?_,?_⟩⟩
   ·exact Z (U.aC _ _ F) v
   ·refine Z (U.ak ..) (Z ws ?_);rfl
  |_=>exact BJ (rL _ rfl) (aj _ _ ⟨_,_,_,rfl,f,v,by refine Z ws ?_;exact B⟩)
 ·rintro g m ⟨b,S,AH,rfl,f,v,B⟩;rw[ac,dp]at B;exact⟨v,jQ (A9 (Aa rfl rfl) (q g r f o B))⟩
noncomputable def T.gb:T->Bool
 |.func _ _ _ _ _ d=>d
 |.name ..=>false
 |.num ..=>false
 |.var ..=>false
 |.expr ..=>false
 |.tr ..=>false
 |.prog ..=>false
noncomputable def T.bZ:T->String
 |.func _ a _ _ _ _=>a.getD ""
 |.name ..=>""
 |.num ..=>""
 |.var ..=>""
 |.expr ..=>""
 |.tr ..=>""
 |.prog ..=>""
noncomputable def T.strict:T->Bool
 |.func _ _ _ _ s _=>s
 |.name ..=>false
 |.num ..=>false
 |.var ..=>false
 |.expr ..=>false
 |.tr ..=>false
 |.prog ..=>false
def A5(ts:List T):List T:=ts.filter T.gb
theorem Rep.oV(r:Rep N H t)(h:t.cL=true):∃v c f,bh N H t.aq "Function" [v,.ref c,.ref f,.bool t.strict,.str (if t.gb then "decl" else "expr")]/\(t.gb=true->v=.str t.bZ):=by
 cases t with
 |func a g i b s d=>refine AQ r fun c f n z=>?_;exact⟨_,c,f,n,fun e=>if_pos e⟩
 |_=>exact bU h
theorem Kg(h:t.gb=true):t.cL=true:=by
 cases t with
 |func=>rfl|_=>exact bU h
theorem Rep.bZ(r:Rep N H t)(h:t.gb=true)(c:Code X G k)(e:k.N=N)(a:Pv A H m (rf t)):Pv (Ax (Aj X .parts A) (Ae (.int 0))) H m (.str t.bZ):=by
 subst e;exact Cb (r.oV (Kg h)) fun v b d n w=>n.part c a (congrArg some (w h)) rfl
theorem C5(c:Code X G k)(e:H l=some (.list (cI ts)))(h:bA k.N H ts)(i:AS ts<=50000)
  (q:∀f r,aD H f->H r=none->f r=some (.list (cI (A5 ts)))->Q (.ref r) f):aG X (d+1) H (G "function_decls") [.ref l] Q:=by
 refine c.fJ.call rfl (Bh (Fg (Aa rfl rfl) e (sz (ab (OP i) (dd rfl))) (Wk e (fun t j=>⟨?_,fun z=>Aa rfl rfl⟩) fun r g=>q _ r (aD.set g) g (U.ak ..))));have r:=h.mem j;have b:=r.test (A:=O 1) (m:=[.aa,rf t]) c (Aa rfl rfl) (S7 t);cases a:t.cL with
 |false=>
  rw[a]at b;exact Z (show t.gb=false from Bool.eq_false_iff.mpr fun w=>by rw[Kg w]at a;cases a) (A0 b)
 |true=>
  rw[a]at b;refine Cb (r.oV a) fun v o p n z=>?_;exact bH b (DQ (aB (n.part c (Aa rfl rfl) rfl rfl) Af (by cases t.gb<;>rfl)))
theorem Fr(ts:List T):(A5 ts).length<=ts.length:=i7 ..
theorem BT(h:t∈A5 ts):t∈ts/\t.gb=true:=fy.mp h
theorem bA.of(h:∀t∈ts,Rep N H t):bA N H ts:=by
 induction ts with
 |nil=>trivial|cons t ts a=>exact⟨h t (.head _),a fun u b=>h u (.tail _ b)⟩
theorem HE(c:Code X G k){Q:List V->U->Prop}{jz:List V}(b:jz=[.aa,.aa])(e:H l=some (.list (cI ts)))(h:bA k.N H ts)(d:∀t∈ts,t.gb=true)(q:Q ((ts.map T.bZ).map .str) H):
  cN (AB 1) (fun H=>H l=some (.list (cI ts))) AI (Ax (Aj X .parts (O 1)) (Ae (.int 0))) Q 0 [] (cI ts) H jz:=by
 rw[f8]at q;refine Z b ?_;exact kW e (fun t a=>(h.mem a).bZ (d t a) c rfl (Aa rfl rfl)) q
noncomputable def Cw:List T->List T
 |[]=>[]
 |t::ts=>if t.bZ∈ts.map T.bZ then Cw ts else t::Cw ts
theorem My(h:t.bZ∈ts.map T.bZ):Cw (t::ts)=Cw ts:=if_pos h
theorem MA(h:t.bZ∉ts.map T.bZ):Cw (t::ts)=t::Cw ts:=if_neg h
theorem NH(m:t∈Cw ts):t∈ts:=by
 induction ts with
 |nil=>exact m|cons u ts a=>
  by_cases h:u.bZ∈ts.map T.bZ
  ·rw[My h]at m;exact .tail _ (a m)
  ·rw[MA h]at m;exact(bg.mp m).elim (fun e=>e▸.head _) fun m=>.tail _ (a m)
theorem Nz(ts:List T):(Cw ts).length<=ts.length:=by
 induction ts with
 |nil=>exact ai _|cons u ts a=>
  by_cases h:u.bZ∈ts.map T.bZ
  ·exact Z (My h) (dS a)
  ·exact Z (MA h) (cv a)
theorem Mi{a:Type}{ts:List a}{j:Nat}{t:a}(h:ts[j]?=some t):ts.drop j=t::ts.drop (j+1):=AA (av.mp h) fun b e=>Z (ry b) (Z e rfl)
inductive Zd(H:U)(l:Addr)(ts:List T)(ro r:Addr)(j:Nat)(aaa:U)(m:List V):Prop where
 |mk:∀b3 b4,∀ls:List T,(m=[.ref l,.ref ro,.ref r,b3,b4,.aa,.aa])->(aD H aaa)->(aaa ro=some (.list (cI (A5 ts))))->(aaa r=some (.list (cI ls)))->(ls++Cw ((A5 ts).drop j)=Cw (A5 ts))->Zd H l ts ro r j aaa m
theorem OQ(c:Code X G k)(e:H l=some (.list (cI ts)))(h:bA k.N H ts)(W:AS ts<=50000)
  (q:∀E r,aD H E->H r=none->E r=some (.list (cI (Cw (A5 ts))))->Q (.ref r) E):aG X (d+2) H (G "last_decls") [.ref l] Q:=by
 refine c.iJ.call rfl (AL (Ao (e₂:=1) (AG (Aa rfl rfl)) (C5 (d:=d) c e h W fun E ro ws hro ad=>AL (AX A4 (bq _) fun r s=>Lz (Aa rfl rfl) (Ah s ad) ?_)) (ai _)));have L:=An s ad;have w:=ws.none s;have hl:=ab (A3 ts) W;have p:=ab (Fr ts) hl;have g:=bA.of fun t xs=>h.mem (BT xs).1;refine AW (Zd H l ts ro r) ?_ ?_ ⟨_,_,[],rfl,ws.trans (aD.set s),Ah s ad,U.ak ..,rfl⟩
 ·rintro j x b m hx ⟨b3,b4,Ab,rfl,f,y,F,a⟩;refine⟨y,_,rfl,fun K rL Y=>(Az (KY hx) fun t xs P z=>?_)⟩;subst P;have hd:=(BT z).2;have R:(cI (A5 ts)).drop (j+1)=cI ((A5 ts).drop (j+1)):=List.map_drop.symm;rw[Mi xs]at a;refine((g.mem z).ext f).bZ hd c rfl (Aa rfl rfl) _ (EN (X6 (n:=j+1) (Aa rfl rfl) y (HL (Aa (v:=.int j) rfl rfl) Af) (sz (Z (ac ..) (ab p (dd rfl)))) fun i S=>⟨i,_,rfl,U.ak ..,sz (Z List.length_drop (Z (ac ..) (ab (pc _ _) (ab p (dd rfl))))),?_⟩));refine Z R ?_;have A:aD H (b.set i (.list (cI ((A5 ts).drop (j+1))))):=f.trans (aD.set S);refine HE c rfl (U.ak ..) (bA.of fun u AH=>(g.mem (oe AH)).ext A) (fun u AH=>(BT (oe AH)).2) fun abd aj=>?_;have B:=Ah (o:=.list ((((A5 ts).drop (j+1)).map T.bZ).map .str)) aj (Ah (o:=.list (cI ((A5 ts).drop (j+1)))) S F);have C:=Ah (o:=.list ((((A5 ts).drop (j+1)).map T.bZ).map .str)) aj (Ah (o:=.list (cI ((A5 ts).drop (j+1)))) S y);have D:=A.trans (aD.set (o:=.list ((((A5 ts).drop (j+1)).map T.bZ).map .str)) aj);by_cases H':t.bZ∈((A5 ts).drop (j+1)).map T.bZ
  ·rw[My H']at a;exact⟨_,tU (U.ak ..) H',rL _ _ ⟨_,_,Ab,rfl,D,C,B,a⟩⟩
  ·rw[MA H']at a;refine⟨_,sX (U.ak ..) H',(Ib (Aa rfl rfl) B (sz (Z (ac ..) (ab (Jh a) (ab (Nz _) (ab p (dd rfl)))))) (Aa rfl rfl) (rL _ _ ⟨_,_,Ab++[t],rfl,D.fH w,?_,?_,?_⟩))⟩
   ·exact Z (U.aC _ _ L) C
   ·exact Z (U.ak ..) (Z (GC ..) rfl)
   ·refine Z (ap a) (Z (ci ..) ?_);rfl
 ·rintro b m ⟨b3,b4,Ab,rfl,f,y,F,a⟩;rw[ac,List.drop_length,show Cw []=[]from rfl,aS]at a;rw[a]at F;exact⟨y,jQ (A9 (Aa rfl rfl) (q b r f w F))⟩
noncomputable def T.isName(x:String):T->Bool
 |.name _ y=>decide (y=x)|_=>false
def K9(ts:List T)(x:String):Bool:=(Cs ts).any (T.isName x)
def BA(ts:List T):List String:=(A5 ts).map T.bZ
def Bd(ps:List String)(ts:List T):Bool:=if "arguments"∈ps\/"arguments"∈BA ts then false else K9 ts "arguments"||decide ("arguments"∈aF ts)
def A6(ps:List String)(ts:List T):List String:=
 (aF ts).foldl AE ((if Bd ps ts then["arguments"]else[]).foldl AE ((BA ts).foldl AE (ps.foldl AE [])))
theorem Ig(ts:List T):(aF ts).length<=AS ts:=ab (NO _) (ab (HT _) (IN ts))
theorem Rep.isNm{B:WE}{x:String}(r:Rep k.N H t)(c:Code X G k)(a:Pv A H m (rf t))(b:Pv B H m (.str x)):
  Pv (IE (Cu X .Eq (Aj X .kind A) (Ae (.str "Name"))) (Cu X .Eq (Ax (Aj X .parts A) (Ae (.int 0))) B)) H m (.bool (t.isName x)):=by
 cases t with
 |name y z=>exact SZ (r.mU c a rfl) (Eu (bh.part r c a rfl rfl) b rfl)|_=>exact Ox (r.mU c a rfl)
theorem Q4(c:Code X G k){x:String}(e:H l=some (.list (cI ts)))(h:bA k.N H ts)(b:AS ts<=50000)
  (q:∀a,aD H a->Q (.bool (K9 ts x)) a):aG X (d+4) H (G "named_in") [.ref l,.str x] Q:=by
 refine c.jA.call rfl (Bh (Uj (EN (Ao (e₂:=3) (AG (Aa rfl rfl)) (Kd (d:=d) c e h b fun a j f m i=>⟨j,_,rfl,i,sz (Z (ac ..) (ab (IN ts) (ab b (dd rfl)))),
  kW (ts:=Cs ts) (g:=rf) (h:=fun t=>.bool (T.isName x t)) i (fun t n=>(((PJ h).mem n).ext f).isNm c (Aa rfl rfl) (Aa rfl rfl)) fun r o=>?_⟩) (dd rfl)))))
 refine Z c.oM (TS (bs:=(Cs ts).map (T.isName x)) (by refine Z (U.ak ..) (Z f8 ?_);rfl) ?_);exact Z List.any_map (q _ (f.trans (aD.set o)))
theorem Oi{x:String}(e:H l=some (.list (M.map .str))):Bv cm H .In (.str x) (.ref l)=some (decide (x∈M)):=Z N4 (Z O7 (Z e NV))
theorem sU{x:String}(e:H l=some (.list (M.map .str)))(h:x∈M):Bv cm H .In (.str x) (.ref l)=some true:=(Oi e).trans (congrArg some (decide_eq_true h))
theorem uq{x:String}(e:H l=some (.list (M.map .str)))(h:x∉M):Bv cm H .In (.str x) (.ref l)=some false:=(Oi e).trans (congrArg some (decide_eq_false h))
theorem Ef(c:Code X G k){u:Addr}{ps:List String}(v:H u=some (.list (ps.map .str)))(e:H l=some (.list (cI ts)))(h:bA k.N H ts)(f:AS ts<=50000)
  (q:∀j,aD H j->Q (.bool (Bd ps ts)) j):aG X (d+5) H (G "needs_arguments") [.ref u,.ref l] Q:=by
 refine c.eO.call rfl ?_;unfold Bd at q;by_cases g:"arguments"∈ps
 ·rw[if_pos (.inl g)]at q;exact EU (SQ (aB Af (Aa rfl rfl) (sU v g))) (NM Af (q H (aD.refl H)))
 ·refine fO (Hx (aB Af (Aa rfl rfl) (uq v g)) (eE (GH Af (EN (Ao (AG (Aa rfl rfl)) (C5 c e h f fun j C x D y=>⟨C,_,rfl,y,sz (Z (ac ..) (ab (Fr ts) (ab (A3 ts) (ab f (dd rfl))))),
   HE c rfl y (bA.of fun t m=>(h.mem (BT m).1).ext x) (fun t m=>(BT m).2) fun r E=>?_⟩) (dd rfl))))))
  have a:=x.trans (aD.set (o:=.list (((A5 ts).map T.bZ).map .str)) E);by_cases i:"arguments"∈BA ts
  ·rw[if_pos (.inr i)]at q;exact⟨_,sU (U.ak ..) i,q _ a⟩
  ·rw[if_neg (fun w=>w.elim g i)]at q;refine⟨_,uq (U.ak ..) i,(gF (HY (gF (Z4 (Bh (ZU (Ao (AD (Aa rfl rfl) Af) (Q4 c (a _ _ e) (h.ext a) f fun z n=>⟨_,rfl,?_⟩) (dd rfl))))))))⟩;have b:=a.trans n;cases A:K9 ts "arguments" with
   |true=>rw[A]at q;exact q _ b
   |false=>rw[A]at q;exact K6 Af (Ao (AG (Aa rfl rfl)) (Gc c (b _ _ e) (h.ext b) f fun B H' p F s=>⟨_,Oi s,q _ (b.trans p)⟩) (dd rfl))
theorem CU{a:Type}{g:a->V}{ts:List a}{j:Nat}{x:V}(h:(ts.map g)[j]?=some x):∃t,ts[j]?=some t/\g t=x:=by
 rw[b9]at h;exact hM.mp h
theorem LH(c:Code X G k){i:Nat}{f:List String}{Q:bu->U->List V->Prop}{b:Addr}(r:H a=some (.list (f.map .str)))(u:H b=some (.list (M.map .str)))(g:a≠b)(v:M.length+f.length<=100000)
  (w:i<m.length) (y:∀M m',(∀j,j≠i->m'.getD j .aa=m.getD j .aa)->Pv A (H.set b (.list M)) m' (.ref b))
  (q:∀m',m'.length=m.length->(∀j,j≠i->m'.getD j .aa=m.getD j .aa)->Q .next (H.set b (.list ((f.foldl AE M).map .str))) m') :
  forL (AB i) (fun H=>H a=some (.list (f.map .str))) (wExpr (Ai X (d+1) (G "add_once") (Ac A (Ac (O i) Ag)))) Q 0 (f.map .str) H m:=by
 refine AW (fun j e m'=>m'.length=m.length/\(∀j,j≠i->m'.getD j .aa=m.getD j .aa)/\e=H.set b (.list (((f.take j).foldl AE M).map .str))) ?_ ?_ ⟨rfl,fun Y Y=>rfl,(EZ u).symm⟩
 ·rintro j x e m' z ⟨l,n,rfl⟩;refine Ad (CU z) fun s B o=>?_;subst o;have h:∀p,p≠i->(m'.set i (.str s)).getD p .aa=m.getD p .aa:=fun p t=>by refine Z (Bw (kl t)) ?_;exact n p t
  refine⟨by refine Z (U.aC _ _ g) ?_;exact r,_,rfl,fun K C Y=>Gj (Ao (AD (y _ _ h) (Aa (Dc (l▸w)) rfl))
   (Fx c (U.ak ..) (ab (EM (f.take j) M) (ab (br (jS ..) _) v)) (C _ _ ⟨by refine Z m2 ?_;exact l,h,?_⟩)) (ai _))⟩
  refine Z set_set (Z (AK B) (Z ja ?_));rfl
 ·rintro e m' ⟨l,n,rfl⟩;refine⟨by refine Z (U.aC _ _ g) ?_;exact r,?_⟩;exact Z (ac ..) (Z dp (q m' l n))
inductive ZL(pl l r:Addr)(ts:List T)(xs1:List String)(aab:U)(j:Nat)(aaa:U)(m:List V):Prop where
 |mk:m.length=9->m.getD 0 .aa=.ref pl->m.getD 1 .aa=.ref l->m.getD 2 .aa=.ref r->aaa=aab.set r (.list ((((BA ts).take j).foldl AE xs1).map .str))->ZL pl l r ts xs1 aab j aaa m
theorem Ks(c:Code X G k){pl:Addr}{ps:List String}(ep:H pl=some (.list (ps.map .str)))(e:H l=some (.list (cI ts)))(h:bA k.N H ts)(hz:AS ts<=20000)(hp:ps.length<=20000)
  (q:∀I r,aD H I->H r=none->I r=some (.list ((A6 ps ts).map .str))->Q (.ref r) I):aG X (d+6) H (G "binding_names") [.ref pl,.ref l] Q:=by
 have hz5:AS ts<=50000:=ab hz (dd rfl);refine c.gn.call rfl (AL (AX A4 (bq _) fun r hr=>J9 (Aa rfl rfl) (Ah hr ep) (LH c (Ah hr ep) (U.ak ..) (An hr ep) (by rw[kQ,df];exact ab hp (dd rfl)) (dd rfl:3<9) (fun y y h=>Aa (h 2 (dd rfl)) rfl) fun m' hm1 hm2=>jQ ?_)));rw[set_set];have hl1:(ps.foldl AE []).length<=20000:=ab (EM ps []) (by rw[kQ,df];exact hp);have g1:m'.getD 1 .aa=.ref l:=hm2 1 (dd rfl);have g2:m'.getD 2 .aa=.ref r:=hm2 2 (dd rfl);have g0:m'.getD 0 .aa=.ref pl:=hm2 0 (dd rfl);have hml:m'.length=9:=hm1;have hb:∀M,M=ps.foldl AE []->A6 ps ts=(aF ts).foldl AE ((if Bd ps ts then["arguments"]else[]).foldl AE ((BA ts).foldl AE M)):=fun M e=>by rw[e];rfl
 replace hb:=hb _ rfl;generalize ps.foldl AE []=xs1 at hl1 hb ⊢;have hE1:aD H (H.set r (.list (xs1.map .str))):=aD.set hr;refine MB (Ao (AG (Aa g1 rfl)) (C5 c (hE1 _ _ e) (h.ext hE1) hz5 fun aab ro hE2 hro h0=>?_) (dd rfl));have hE2':=hE1.trans hE2;have hror:ro≠r:=fun z=>by rw[z,U.ak]at hro;cases hro
 have hdl:(BA ts).length<=20000:=by unfold BA;rw[ac];exact ab (Fr ts) (ab (A3 ts) hz)
 refine⟨ro,_,rfl,h0,AW (ZL pl l r ts xs1 aab) ?_ ?_ ⟨hml,g0,g1,g2,(EZ (hE2 _ _ (U.ak ..))).symm⟩⟩
 ·rintro j x aaa m hx ⟨n1,n2,n3,n4,rfl⟩;refine Az (KY hx) fun t ht zq2 htm=>?_;subst zq2;have htd:=BT htm;have d2:(m.set 4 (rf t)).getD 2 .aa=.ref r:=by rw[Bw (dd rfl)];exact n4
  have hdn:(BA ts)[j]?=some t.bZ:=by unfold BA;rw[b9,ht];rfl
  refine⟨by rw[U.aC _ _ hror];exact h0,_,rfl,fun K hK y=>Gj (Ao (AD (Aa d2 rfl) (((h.mem htd.1).ext (aD.fH hE2' hr)).bZ htd.2 c rfl (Aa (Dc (by rw[n1];decide)) rfl)))
   (Fx c (U.ak ..) (ab (EM _ xs1) (ab (cc hl1 (ab (jS ..) hdl)) (dd rfl))) (hK _ _ ⟨by rw[m2];exact n1,?_,?_,d2,?_⟩)) (dd rfl))⟩
  ·rw[Bw (dd rfl)];exact n2
  ·rw[Bw (dd rfl)];exact n3
  ·rw[set_set,AK hdn,ja];rfl
 rintro aaa m ⟨n1,n2,n3,n4,rfl⟩;refine⟨by rw[U.aC _ _ hror];exact h0,jQ ?_⟩;rw[show(cI (A5 ts)).length=(BA ts).length by unfold BA;rw[ac,ac],dp];have hl3:((BA ts).foldl AE xs1).length<=40000:=ab (EM (BA ts) xs1) (cc hl1 hdl);generalize(BA ts).foldl AE xs1=xs2 at hl3 hb ⊢;have hE3:aD H (aab.set r (.list (xs2.map .str))):=aD.fH hE2' hr;refine vH (Ao (AD (Aa n2 rfl) (Aa n3 rfl)) (Ef c (hE3 _ _ ep) (hE3 _ _ e) (h.ext hE3) hz5 fun aan hE4=>⟨_,rfl,?_⟩) (ai _));have hE4':=hE3.trans hE4;have hr4:=hE4 _ _ (U.ak ..);have fin:∀(aao:U) (xs3:List String),aD H aao->aao r=some (.list (xs3.map .str))->xs3.length<=40001->A6 ps ts=(aF ts).foldl AE xs3 ->
   D9 X (d+5) G aao m (fun fl I y=>Q fl.val I):=by
  intro aao xs3 hE5 hr5 hl5 hb;refine MB (Ao (AG (Aa n3 rfl)) (Gc c (hE5 _ _ e) (h.ext hE5) hz5 fun aax rv hE6 hrv0 hrv=>?_) (dd rfl));have hvr:rv≠r:=fun z=>by rw[z,hr5]at hrv0;cases hrv0
  exact⟨rv,_,rfl,hrv,LH c hrv (hE6 _ _ hr5) hvr (ab (cc hl5 (ab (Ig ts) hz)) (dd rfl)) (by rw[n1];decide) (fun y y h=>Aa ((h 2 (dd rfl)).trans n4) rfl) fun m' hm1 hm2=>jQ (A9 (Aa ((hm2 2 (dd rfl)).trans n4) rfl) (q _ r (aD.fH (hE5.trans hE6) hr) hr (by rw[U.ak,hb])))⟩
 cases hq:Bd ps ts with
 |true=>
  rw[hq]at hb;exact lL (LK (Ao (AD (Aa n4 rfl) Af) (Fx c hr4 (ab hl3 (dd rfl)) (fin _ _ (aD.fH hE4' hr) (U.ak ..) (ab (JT xs2 _) (cv hl3)) hb)) (dd rfl)))
 |false=>rw[hq]at hb;exact fin _ _ hE4' hr4 (ab hl3 (dd rfl)) hb
def Ok(x s:String):At->V:=upd (upd (upd (upd LO .name (.str x)) .sort (.str s)) .cB (.bool false)) .place .none
def bK(P:Addr->Prop)(H b:U):Prop:=∀a o,¬P a->H a=some o->b a=some o
variable{P:Addr->Prop}
theorem aD.off{I:U}(h:aD H I):bK P H I:=fun a o z e=>h a o e
theorem bK.trans{b H'':U}(h:bK P H b)(c:bK P b H''):bK P H H'':=fun a o n e=>c a o n (h a o n e)
theorem bK.set{c:U}{o:bI}(h:bK P H c)(p:P a):bK P H (c.set a o):=fun b q n e=>by
 rw[U.aC _ _ (fun z=>n (by rw[z];exact p))];exact h b q n e
theorem bK.fresh{c:U}{o:bI}(h:bK P H c)(e:c a=none):bK P H (c.set a o):=fun b q n d=>Ah e (h b q n d)
theorem JO(c:Code X G k){x:String}(q:∀b,H b=none->Q (.ref b) (H.set b (.inst k.B (Ok x s)))):aG X (d+2) H (G "Binding") [.str x,.str s] Q:=Ad c.nB fun f a N=>Z c.gB (GI N fun b e=>Z (ap a) (c.dM.call rfl (Cg (Aa rfl rfl) (Aa rfl rfl) c.oA (Cg (Aa rfl rfl) (Aa rfl rfl) c.oA (Cg Af (Aa rfl rfl) c.oA (Xa Af (Aa rfl rfl) c.oA ⟨rfl,q b e⟩))))))
end
section
variable{X:Cx}{d:Nat}{H:U}{G:String->V}{k:fW}
noncomputable def T.ps:T->List String
 |.func _ _ ps _ _ _=>ps
 |.name ..=>[]
 |.num ..=>[]
 |.var ..=>[]
 |.expr ..=>[]
 |.tr ..=>[]
 |.prog ..=>[]
noncomputable def T.body:T->List T
 |.func _ _ _ b _ _=>b
 |.prog _ b=>b
 |.name ..=>[]
 |.num ..=>[]
 |.var ..=>[]
 |.expr ..=>[]
 |.tr ..=>[]
noncomputable def T.aK:T->Bool
 |.func ..=>true
 |.prog ..=>true
 |.name ..=>false
 |.num ..=>false
 |.var ..=>false
 |.expr ..=>false
 |.tr ..=>false
noncomputable def T.bO:T->Bool
 |.prog ..=>true
 |.name ..=>false
 |.num ..=>false
 |.var ..=>false
 |.expr ..=>false
 |.func ..=>false
 |.tr ..=>false
def T.names:T->List String
 |.func _ _ ps b _ _=>A6 ps b
 |.tr _ _ x _=>[x]
 |.name ..=>[]
 |.num ..=>[]
 |.var ..=>[]
 |.expr ..=>[]
 |.prog ..=>[]
noncomputable def Jq(a:Option String)(b:List String)(d:Bool):Option String:=if d then none else a.bind fun x=>if x∈b then none else some x
theorem Ts{x:String}{a:List String}(h:x∈a):Jq (some x) a false=none:=if_pos h
theorem Nx{x:String}{a:List String}(h:x∉a):Jq (some x) a false=some x:=if_neg h
def T.bM:T->Option String
 |.func _ a ps b _ d=>Jq a (A6 ps b) d
 |.name ..=>none
 |.num ..=>none
 |.var ..=>none
 |.expr ..=>none
 |.tr ..=>none
 |.prog ..=>none
def T.args:T->Bool
 |.func _ _ ps b _ _=>Bd ps b
 |.name ..=>false
 |.num ..=>false
 |.var ..=>false
 |.expr ..=>false
 |.tr ..=>false
 |.prog ..=>false
theorem GB{a:Type}{M:List String}{f:String->a}{x:String}(h:x∉M):(M.map fun y=>(y,f y)).lookup x=none:=by
 induction M with
 |nil=>rfl|cons y M b=>
  refine Z dr (Z e9 ?_);have c:x≠y:=fun z=>h (z▸.head _);exact Z (beq_false_of_ne c) (b fun z=>h (.tail _ z))
theorem Cy{a:Type}{M:List String}{f:String->a}{x:String}(h:x∈M):(M.map fun y=>(y,f y)).lookup x=some (f x):=by
 induction M with
 |nil=>exact absurd h am|cons y M b=>
  refine Z dr (Z e9 ?_);by_cases e:x=y
  ·exact Z e (Z (beq_self_eq_true ..) rfl)
  ·exact Z (beq_false_of_ne e) (b ((bg.mp h).resolve_left e))
theorem LS(ps:List String)(ts:List T):(A6 ps ts).Nodup:=DV (DV (DV (DV d0)))
variable{cm:Addr->Bool}{es:List (String×V)}
theorem RU{D:Addr}{a:Nat}{x:String}(e:H D=some (.dict es a)):Bv cm H .NotIn (.str x) (.ref D)=some !(es.lookup x).isSome:=Z SD (Z LM (Z e rfl))
theorem S9{D:Addr}{a:Nat}{x:String}(e:H D=some (.dict es a)):Bv cm H .In (.str x) (.ref D)=some (es.lookup x).isSome:=Z N4 (Z O7 (Z e rfl))
variable{a:Addr}
theorem bK.none{P:Addr->Prop}{b:U}(h:bK P H b)(n:¬P a)(e:b a=Option.none):H a=Option.none:=by
 cases z:H a with
 |none=>rfl|some o=>rw[h a o n z]at e;exact jd e
noncomputable def TC(a:String->Addr)(t:String)(p:Addr):String->Addr:=fun y=>if y=t then p else a y
theorem GL(a:String->Addr)(t:String)(p:Addr):TC a t p t=p:=if_pos rfl
variable{y:String}{p:Addr}
theorem Sc{a:String->Addr}{t:String}(h:y≠t):TC a t p y=a y:=if_neg h
structure jP(k:fW)(H I:U)(L:List String)(bd:String->Addr):Prop where
 at':∀y∈L,H (bd y)=none/\I (bd y)=some (.inst k.B (Ok y "own"))
 inj:∀y∈L,∀z∈L,bd y=bd z->y=z
theorem jP.nil{a:U}{bd:String->Addr}:jP k H a [] bd:=⟨fun y h=>absurd h am,fun y h=>absurd h am⟩
theorem jP.keep{e c:U}{L:List String}{bd:String->Addr}(b:jP k H e L bd)(q:∀a f,H a=none->e a=some (.inst k.B f)->c a=some (.inst k.B f)):jP k H c L bd:=⟨fun y d=>⟨(b.at' y d).1,q _ _ (b.at' y d).1 (b.at' y d).2⟩,b.inj⟩
theorem jP.ne{a:U}{L:List String}{c:String->Addr}(b:jP k H a L c)(h:a p=none)(d:y∈L):c y≠p:=An h (b.at' y d).2
theorem jP.add{d g:U}{L:List String}{j:String->Addr}{t:String}(b:jP k H d L j)(m:t∉L)(h:H p=none)(l:d p=none)(e:g p=some (.inst k.B (Ok t "own")))(q:∀a f,H a=none->d a=some (.inst k.B f)->g a=some (.inst k.B f)):jP k H g (L++[t]) (TC j t p):=by
 have o:∀y,y∈L->TC j t p y=j y:=fun y c=>Sc fun z=>m (z▸c);refine⟨fun y c=>?_,fun y c z i=>?_⟩
 ·rcases bX.mp c with c|c
  ·exact Z (o y c) ((b.keep q).at' y c)
  ·exact Z (ap (Bb c)) (Z (GL ..) ⟨h,e⟩)
 ·rcases bX.mp c with c|c<;>rcases bX.mp i with i|i
  ·exact Z (o y c) (Z (o z i) (b.inj y c z i))
  ·exact Z (o y c) (Z (ap (Bb i)) (Z (GL ..) (fun w=>absurd w (b.ne l c))))
  ·exact Z (o z i) (Z (ap (Bb c)) (Z (GL ..) (fun w=>absurd w.symm (b.ne l i))))
  ·exact fun x=>(Bb c).symm.trans (Bb i)
theorem jP.map{L:List String}{b:String->Addr}{t:String}(c:t∉L):(L++[t]).map (fun y=>(y,V.ref (TC b t p y)))=L.map (fun y=>(y,V.ref (b y)))++[(t,.ref p)]:=by
 rw[bP,List.map_singleton,GL,fz fun y d=>congrArg (fun a=>(y,V.ref a)) (Sc fun z=>c (by rw[<-z];exact d))]
inductive cW(k:fW)(H I:U):Option String->V->Prop where
 |none:cW k H I none .none
 |some (y:String) (p:Addr):H p=none->I p=some (.inst k.B (Ok y "self"))->cW k H I (some y) (.ref p)
theorem Ro{a:Type}{l:List a}{j:Nat}{t:a}(h:l.Nodup)(e:l[j]?=some t):t∉l.take j:=fun c=>by
 have b:(l.take (j+1)).Nodup:=h.sublist (List.take_sublist ..);rw[AK e,eM]at b;exact b.2.2 t c t (.head _) rfl
inductive Y7(H:U)(k:fW)(x dct:Addr)(f:At->V)(L:List String)(r:Addr)(j:Nat)(aab:U)(m:List V):Prop where
 |mk:∀(y:V) (bd:String->Addr) (ep:Nat),m=[.ref x,y,.aa,.aa,.aa]->bK (fun y=>y=x\/y=dct) H aab->aab r=some (.list (L.map .str))->aab x=some (.inst k.S f)->aab dct=some (.dict ((L.take j).map fun y=>(y,.ref (bd y))) ep)->jP k H aab (L.take j) bd->Y7 H k x dct f L r j aab m
variable{j:At}
theorem WN{f:At->V}{v:V}(h:f j=v):upd f j v=f:=by
 funext i;unfold upd
 by_cases e:i=j
 ·exact Z (if_pos e) (Z e (Z h rfl))
 ·exact Z (if_neg e) rfl
variable{z:Addr}
theorem tL{x:Addr}{f:At->V}{c:Nat}{o:bI}(e:H x=some (.inst k.S f))(d:H a=some (.dict es c))(b:H z=some o)(g:o≠.inst k.S f)(h:Nat.beq (MQ o) 2=false):¬(z=x\/z=a):=fun q=>by
 rcases q with q|q
 ·rw[q,e]at b;exact g (ag b).symm
 ·exact Db b d h q
theorem Wt(c:Code X G k){x dct:Addr}{f:At->V}{nm:Option String}{ns:List String}{dd:Bool}{ep:Nat}{bd:String->Addr}{y:V}{ps:List V}{aab:U}{Q:V->U->Prop}
  (e:H x=some (.inst k.S f)) (en:f .node=.ref a) (hN:bh k.N aab a "Function" ps) (p0:ps[0]?=some (sJ nm dd)) (p4:ps[4]?=some (.str (if dd then "decl" else "expr"))) (eo:f .own=.ref dct) (es:f .aH=.none) (hxd:x≠dct) (ho:bK (fun y=>y=x\/y=dct) H aab) (h3:aab x=some (.inst k.S f))
  (h4:aab dct=some (.dict (ns.map fun y=>(y,.ref (bd y))) ep)) (h5:jP k H aab ns bd)
  (q:∀(I:U) (sb:V),bK (fun y=>y=x\/y=dct) H I->I x=some (.inst k.S (upd f .aH sb))->(∃ep,I dct=some (.dict (ns.map fun y=>(y,.ref (bd y))) ep))->jP k H I ns bd->cW k H I (Jq nm ns dd) sb->Q .none I) :
  Ec X (d+6) G aab [.ref x,y,.aa,.aa,.aa] (fun fl I t=>Q fl.val I):=by
 have pn:∀(A:WE) (m:List V),Pv A aab m (.ref x)->Pv (Aj X .node A) aab m (.ref a):=fun A m h=>Am h (c.fS h3 en rfl rfl);refine Fh (hN.part (i:=0) c (pn _ _ (Aa rfl rfl)) p0 rfl _ (hN.part (i:=4) c (pn _ _ (Aa rfl rfl)) p4 rfl _ fun r2 hr2=>?_));have done:Jq nm ns dd=none->∀aaf,aD aab aaf->Q .none aaf:=fun hs aaf hE=>
  q aaf .none (ho.trans hE.off) (Z (WN es) (hE _ _ h3)) ⟨ep,hE _ _ h4⟩ (h5.keep fun a f t z=>hE _ _ z) (Z hs .none)
 cases dd with
 |true=>exact BJ (A0 (aB (Aa rfl rfl) Af rfl)) (done rfl _ (aD.set hr2))|false=>
  cases nm with
  |none=>exact BJ (bH (aB (Aa rfl rfl) Af rfl) (A0 (aB (Aa rfl rfl) Af rfl))) (done rfl _ (aD.set hr2))|some y=>
   have hE2:=aD.set (o:=.tup [.str y,.str "expr"]) hr2;have tt:∀{b},(!((ns.map fun y=>(y,V.ref (bd y))).lookup y).isSome)=b->cP (AP (Ap X .Eq (O 2) (Ae (.str "expr"))) (AP (Ap X .IsNot (O 1) (Ae .none)) (AP (Ap X .NotIn (O 1) (Aj X .own (O 0))) AI))) (aab.set r2 (.tup [.str y,.str "expr"])) [.ref x,.str y,.str "expr",.aa,.aa] b:=fun{b} w=>
    bH (aB (Aa rfl rfl) Af rfl) (bH (aB (Aa rfl rfl) Af rfl) (DQ (aB (Aa rfl rfl) (Am (Aa rfl rfl) (c.fS (hE2 _ _ h3) eo rfl rfl)) ((RU (hE2 _ _ h4)).trans (congrArg some w)))))
   by_cases hy:y∈ns
   ·exact BJ (tt (by refine Z (Cy hy) ?_;rfl)) (done (Ts hy) _ hE2)
   ·refine Dt (tt (by refine Z (GB hy) ?_;rfl)) (VT (Ao (e₁:=2) (AD (Aa (v:=.str y) rfl rfl) Af) (JO (d:=d) c fun sb hsb=>?_) (dd rfl)));have n1:x≠sb:=An hsb (hE2 _ _ h3);have n2:dct≠sb:=An hsb (hE2 _ _ h4);refine Aa (v:=.ref x) rfl rfl _ ⟨x,k.S,f,rfl,by refine Z (U.aC _ _ n1) ?_;exact hE2 _ _ h3,c.jb,q _ (.ref sb) (((ho.trans hE2.off).fresh hsb).set (.inl rfl)) (U.ak ..) ⟨ep,?_⟩ (h5.keep fun a f z w=>?_) ?_⟩
    ·exact Z (U.aC _ _ hxd.symm) (Ah hsb (hE2 _ _ h4))
    ·exact Z (U.aC _ _ fun u=>by rw[u,e]at z;exact jd z) (Ah hsb (hE2 _ _ w))
    ·exact Z (Nx hy) (.some y sb ((ho.trans hE2.off).none (fun w=>w.elim (fun w=>n1 w.symm) fun w=>n2 w.symm) hsb) (Z (U.aC _ _ n1.symm) (Z (U.ak ..) rfl)))
variable{b:List T}
theorem TP(c:Code X G k){x i pl bl:Addr}{f:At->V}{P:Option String}{ps:List String}{s ad:Bool}{u:Nat}{Q:V->U->Prop}
  (e:H x=some (.inst k.S f)) (en:f .node=.ref a) (hR:Rep k.N H (.func a P ps b s ad)) (R:f .params=.ref pl) (AH:H pl=some (.list (ps.map .str))) (aj:f .body=.ref bl) (W:H bl=some (.list (cI b)))
  (eo:f .own=.ref i) (D:H i=some (.dict [] u)) (es:f .aH=.none) (hz:AS b<=20000) (hp:ps.length<=20000) (hn:(A6 ps b).length<1000)
  (q:∀(n:U) (A:String->Addr) (L:V),bK (fun y=>y=x\/y=i) H n->n x=some (.inst k.S (upd f .aH L))->(∃u,n i=some (.dict ((A6 ps b).map fun y=>(y,.ref (A y))) u))->jP k H n (A6 ps b) A->cW k H n (Jq P (A6 ps b) ad) L->Q .none n):aG X (d+7) H (G "Scope_declare") [.ref x] Q:=by
 refine AN hR fun ws rL hN Y Y hRb=>?_;refine c.gA.call rfl (MB (Ao (AD (Am (Aa rfl rfl) (c.fS e R rfl rfl)) (Am (Aa rfl rfl) (c.fS e aj rfl rfl))) (Ks c AH W hRb hz hp fun aaa r o hr0 hr=>?_) (ai _)));have hrd:=(An hr0 D).symm;have E:=Db e D rfl;refine⟨r,_,rfl,hr,AW (Y7 H k x i f (A6 ps b) r) ?_ ?_ ⟨_,fun Y=>0,u,rfl,o.off,hr,o _ _ e,o _ _ D,.nil⟩⟩
 ·rintro j v F m hx ⟨y,A,u,rfl,B,xs,H',C,Ab⟩;refine Ad (CU hx) fun t ht zq2=>?_;subst zq2;have l:=Ro (LS ps b) ht;refine⟨xs,_,rfl,fun K hK Y=>Aby (Ao (AD (Aa rfl rfl) Af) (JO c fun p h=>?_) (by decide))⟩;have n1:=An h H';have n2:=An h C;refine Am (Aa rfl rfl) (c.fS (Ah h H') eo rfl rfl) _ (Aa rfl rfl _ (Uv (Ah h C) (GB l) (Z (ac ..) (aI (jS ..) hn)) fun ep'=>hK _ _ ⟨_,TC A t p,ep',rfl,(B.fresh h).set (.inr rfl),?_,?_,?_,?_⟩))
  ·refine Z (U.aC _ _ hrd) ?_;exact Ah h xs
  ·refine Z (U.aC _ _ E) ?_;exact Ah h H'
  ·exact Z (U.ak ..) (Z (AK ht) (Z (jP.map l) rfl))
  ·refine Z (AK ht) ?_;exact Ab.add l (B.none (fun w=>w.elim (fun w=>n1 w.symm) fun w=>n2 w.symm) h) h (Z (U.aC _ _ n2.symm) (Z (U.ak ..) rfl)) fun a g Y w=>by refine Z (U.aC _ _ (Db w C rfl)) ?_;exact Ah h w
 rintro F m ⟨y,A,u,rfl,B,xs,H',C,Ab⟩;rw[ac,dp]at C Ab;refine⟨xs,jQ (Wt c e en (ps:=[sJ P ad,.ref ws,.ref rL,.bool s,.str (if ad then "decl" else "expr")]) ?_ rfl rfl eo es E B H' C Ab fun n L=>q n A L)⟩;exact hN.elim fun fN w=>w.elim fun p w=>⟨fN,p,B _ _ (tL e D w.1 (fun z=>c.pF (bI.inst.inj z).1) rfl) w.1,w.2.1,w.2.2.1,B _ _ (tL e D w.2.2.2 (Bu rfl) rfl) w.2.2.2⟩
noncomputable def aY:List At:=[.params,.aM,.aF,.aL,.aN,.aJ,.aP,.aA]
theorem NX{P:At->Prop}(h:j∈aY)(b:P .params)(c:P .aM)(d:P .aF)(e:P .aL)(f:P .aN)(g:P .aJ)(k:P .aP)(n:P .aA):P j:=by
 have a:∀l:List At,(∀i∈l,P i)->j∈l->P j:=fun l q m=>q j m;exact a _ (cw.mpr ⟨b,cw.mpr ⟨c,cw.mpr ⟨d,cw.mpr ⟨e,cw.mpr ⟨f,cw.mpr ⟨g,cw.mpr ⟨k,cw.mpr ⟨n,fun y z=>absurd z am⟩⟩⟩⟩⟩⟩⟩⟩) h
def T.qe(t:T):List String:=((Cw (A5 t.body)).map T.bZ++aF t.body).foldl AE []
def Dh(t:T):At->List V
 |.params=>t.ps.map .str
 |.aM=>cI (Cw (A5 t.body))
 |.aF=>t.qe.map .str
 |_=>[]
variable{N:Addr}
theorem bh.parts{k e:String}{p q:List V}(h:bh N H a k p)(g:bh N H a e q):p=q:=by
 refine AN h fun f r i z j l=>AN g fun n o d z b c=>?_;have m:=O2 i d;rw[<-m,j]at b;rw[<-V.ref.inj b,l]at c;exact bI.list.inj (ag c)
inductive cG(N:Addr)(H:U)(t:T)(bl:Addr):Prop where
 |prog:t.bO=true->bh N H t.aq "Program" [.ref bl,.bool t.strict]->t.ps=[]->t.args=false->t.cL=false->H bl=some (.list (cI t.body))->cG N H t bl
 |func (v w:V) (pl:Addr):t.bO=false->bh N H t.aq "Function" [v,.ref pl,.ref bl,.bool t.strict,w]->H pl=some (.list (t.ps.map .str))->t.args=Bd t.ps t.body->t.cL=true->H bl=some (.list (cI t.body))->cG N H t bl
theorem cG.bl{t:T}(h:cG N H t a):H a=some (.list (cI t.body)):=by
 cases h with
 |prog _ _ _ _ _ e=>exact e|func v w b _ _ _ _ _ e=>exact e
theorem Rep.dC{t:T}(h:Rep N H t)(f:t.aK=true):(∃c,cG N H t c)/\bA N H t.body/\AS t.body<=t.size/\t.ps.length<=t.size:=by
 cases t with
 |prog a b=>refine Az h fun c n e r=>?_;exact⟨⟨c,.prog rfl n rfl rfl rfl e⟩,r,cy _ _,bq _⟩
 |func a j k b s d=>refine AN h fun g c n e i r=>?_;exact⟨⟨c,.func _ _ g rfl n e rfl rfl i⟩,r,cy _ _,ab (cy _ _) (bp _ _)⟩
 |_=>exact bU f
theorem cG.base{b:U}{t:T}{c:Addr}(h:cG N H t c)(f:Base N b H)(g:Rep N b t)(i:t.aK=true):b c=some (.list (cI t.body)):=by
 refine AA ((g.dC i).1) fun bl' d=>?_;have:c=bl':=by
  cases h with
  |prog p n _ _ _ _=>cases d with
   |prog a e _ _ _ _=>exact V.ref.inj (bS (n.parts (f.bF e))).1|func v w j a=>rw[p]at a;exact bU a.symm
  |func v w j p n _ _ _ _=>cases d with
   |prog a=>rw[p]at a;exact bU a
   |func l m k a e _ _ _ _=>exact V.ref.inj (bS (bS (bS (n.parts (f.bF e))).2).2).1
 exact Z this d.bl
structure gm(t:T)(pv:V)(pl bl:Addr)(f:At->V):Prop where
 pA:f .params=.ref pl
 nG:f .body=.ref bl
 node:f .node=rf t
 parent:f .parent=pv
 bO:f .bN=.bool t.bO
 sort:f .sort=.str (if t.bO then "program" else "function")
 strict:f .d8=.bool t.strict
structure Jp(k:fW)(H I:U)(x:Addr)(t:T)(pv:V)(f:At->V)(ls:At->Addr)(dc bl:Addr)(bd:String->Addr)(sv:V):Prop where
 ext:aD H I
 fx:H x=none
 at':I x=some (.inst k.S f)
 v:gm t pv (ls .params) bl f
 args:f .aR=.bool t.args
 bo:cG k.N H t bl
 own:f .own=.ref dc
 dct:∃ep,I dc=some (.dict (t.names.map fun y=>(y,.ref (bd y))) ep)
 fd:H dc=none
 bnd:jP k H I t.names bd
 sO:f .aH=sv
 self:cW k H I t.bM sv
 nl:f .bD=.int 0
 nc:f .bQ=.int 0
 lst:∀j∈aY,f j=.ref (ls j)/\H (ls j)=none/\I (ls j)=some (.list (Dh t j))
 ue:∀i∈aY,∀j∈aY,ls i=ls j->i=j
structure ik(k:fW)(H Hc:U)(x:Addr)(t:T)(pv:V)(f:At->V)(pl bl:Addr):Prop where
 fn:t.aK=true
 rep:Rep k.N H t
 ext:aD H Hc
 fx:H x=none
 at':Hc x=some (.inst k.S f)
 fp:H pl=none
 hpl:Hc pl=some (.list (t.ps.map .str))
 v:gm t pv pl bl f
 sz:t.size<=10000
 nn:t.names.length<1000
 bo:cG k.N H t bl
variable{pv:V}
theorem ik.step{c Hd:U}{x:Addr}{t:T}{f b:At->V}{bl:Addr}(h:ik k H c x t pv f a bl)(d:aD H Hd)(e:Hd x=some (.inst k.S b))(g:Hd a=some (.list (t.ps.map .str)))(v:gm t pv a bl b):ik k H Hd x t pv b a bl:=
 ⟨h.fn,h.rep,d,h.fx,e,h.fp,g,v,h.sz,h.nn,h.bo⟩
def Off(x:Addr)(H b:U):Prop:=∀a o,a≠x->H a=some o->b a=some o
theorem Off.none{x:Addr}{b:U}(h:Off x H b)(n:a≠x)(e:b a=Option.none):H a=Option.none:=by
 cases z:H a with
 |none=>rfl|some o=>rw[h a o n z]at e;exact jd e
structure Lay(H Hd:U)(x:Addr)(as:List (Addr×List V)):Prop where
 off:Off x H Hd
 at':∀p∈as,Hd p.1=some (.list p.2)
 nd:(as.map (·.1)).Nodup
variable{Hd:U}{x:Addr}{f:At->V}{as:List (Addr×List V)}{m:List V}{W:WS}{Q:bu->U->List V->Prop}{u:At}
variable{M:List V}
theorem Lay.get(L:Lay H Hd x as)(i:Nat)(e:as[i]?=some (a,M)):Hd a=some (.list M):=L.at' _ (ay e)
theorem Lay.nY(L:Lay H Hd x as){o b:bI}(e:Hd x=some b)(w:Nat.beq 0 (MQ b)=false):Lay H (Hd.set x o) x as:=
 ⟨fun a p n q=>by refine Z (U.aC _ _ n) ?_;exact L.off a p n q,fun p c=>AM (L.at' p c) e w,L.nd⟩
theorem JQ(c:Code X G k)(g:Hd x=some (.inst k.S f))(L:Lay H Hd x as)(i:m.getD 0 .aa=.ref x)(q:∀r b,H r=none->b x=some (.inst k.S (upd f u (.ref r)))->Lay H b x ((r,[])::as)->W b m Q):az (Aq X u (AF Ag) (O 0)) W Hd m Q:=by
 refine Ju (AX A4 (bq _) fun r d=>?_);have n:=An d g;exact Aa i rfl _ ⟨x,k.S,f,rfl,Ah d g,c.jb,q r _ (L.off.none n.symm d) (U.ak ..) (Lay.nY ⟨fun a o n z=>Ah d (L.off a o n z),cw.mpr ⟨U.ak ..,fun p h=>Ah d (L.at' p h)⟩,cr.mpr ⟨fun z=>(Ad (bn.mp z) fun p h e=>An d (L.at' p h) e),L.nd⟩⟩ (Ah d g) rfl)⟩
theorem RV(c:Code X G k){aj:WE}{v:V}(d:Pv aj Hd m v)(b:Hd x=some (.inst k.S f))(L:Lay H Hd x as)(e:m.getD 0 .aa=.ref x)(q:∀a,a x=some (.inst k.S (upd f u v))->Lay H a x as->W a m Q):az (Aq X u aj (O 0)) W Hd m Q:=
 N0 d (Aa e rfl) b c.jb (q _ (U.ak ..) (L.nY b rfl))
theorem Pb{d g:Type}{f:d->g}{l:List d}(h:(l.map f).Nodup):∀i∈l,∀j∈l,f i=f j->i=j:=by
 induction l with
 |nil=>exact fun i c=>absurd c am
 |cons a l k=>
  rw[dr,cr]at h;intro i c j m e;rcases bg.mp c with q|q<;>rcases bg.mp m with b|b
  ·exact Z q (Z b rfl)
  ·exact absurd (bn.mpr ⟨j,b,by exact Z (ap e) (Z q rfl)⟩) h.1
  ·exact absurd (bn.mpr ⟨i,q,by exact Z e (Z b rfl)⟩) h.1
  ·exact k h.2 i q j b e
def qX(f:At->V)(a b c d e g:Addr):At->V:=upd (upd (upd (upd (upd (upd (upd (upd (upd f At.own (V.ref a)) At.aH V.none) At.aL (V.ref b)) At.aN (V.ref c)) At.aJ (V.ref d)) At.aP (V.ref e)) At.bD (V.int 0)) At.bQ (V.int 0)) At.aA (V.ref g)
noncomputable def qL(a b c d e f g h:Addr)(j:At):Addr:=(og j [(At.params,a),(.aM,b),(.aF,c),(.aL,d),(.aN,e),(.aJ,f),(.aP,g),(.aA,h)]).getD 0
theorem jP.from{c d:U}{L:List String}{bd:String->Addr}(b:jP k c d L bd)(q:∀a,c a=none->H a=none):jP k H d L bd:=⟨fun y e=>⟨q _ (b.at' y e).1,(b.at' y e).2⟩,b.inj⟩
variable{o:Option String}
theorem cW.bk{b c:U}{v:V}(s:cW k b c o v)(q:∀a,b a=Option.none->H a=Option.none):cW k H c o v:=by
 cases s with
 |none=>exact .none|some y p h e=>exact .some y p (q _ h) e
theorem Q2(c:Code X G k){v w e:Addr}{t:T}{h:Nat}{Q:V->U->Prop}(F:t.aK=true)(H:Rep k.N Hd t)(i:Hd x=some (.inst k.S f))(H':f .bN=.bool t.bO)(ad:f .node=rf t)
  (j:f .params=.ref v) (l:Hd v=some (.list (t.ps.map .str))) (n:f .body=.ref w) (p:Hd w=some (.list (cI t.body))) (K:f .own=.ref e) (A:Hd e=some (.dict [] h)) (es:f .aH=.none) (L:AS t.body<=20000) (Ab:t.ps.length<=20000) (r:t.names.length<1000) (B:m.getD 0 .aa=.ref x)
  (q:∀(g:U) (C:String->Addr) (D:V),bK (fun y=>y=x\/y=e) Hd g->g x=some (.inst k.S (upd f .aH D))->(∃h,g e=some (.dict (t.names.map fun y=>(y,.ref (C y))) h))->jP k Hd g t.names C->cW k Hd g t.bM D->Q .none g) :
  Dm X (d+7) G Hd m (fun fl g Y=>Q fl.val g):=by
 have E:=AJ (Am (Aa B rfl) (c.fS i H' rfl rfl));cases t with
 |prog a b=>exact BJ (IP E) (q _ (fun Y=>0) .none (fun a o Y z=>z) (Z (WN es) i) ⟨h,A⟩ .nil .none)|func a P R b s AH=>
  exact Ad c.jn fun aj u xs=>Dt (IP E) (Gj (Bz (Aa B rfl) (aO.inst (c.cx.cls _ c.jb) xs i) A4 (Z (ap u) (TP c i ad H j l n p K A es L Ab r q)) (ai _)))
 |_=>exact bU F
theorem TY(c:Code X G k){R C:U}{F D E dct n r s u:Addr}{t:T}{Ab:Nat}{Q:V->U->Prop}(h:ik k H R x t pv f F N)
  (eF:f .aM=.ref D) (fF:H D=none) (eV:f .aF=.ref E) (fV:H E=none) (ea:f .aR=.bool t.args)
  (e:R dct=none) (AH:C=R.set dct (.dict [] Ab)) (c1:C n=none) (c2:C p=none) (c3:C r=none) (c4:C s=none) (c5:C u=none) (aj:Hd x=some (.inst k.S (qX f dct n p r s u)))
  (L:Lay C Hd x [(u,[]),(s,[]),(r,[]),(p,[]),(n,[]),(E,Dh t .aF),(D,Dh t .aM),(F,Dh t .params)]) (hm:m.getD 0 .aa=.ref x)
  (q:∀I f A dct N H' sv,Jp k H I x t pv f A dct N H' sv->Q .none I):Dm X (d+7) G Hd m (fun fl I Y=>Q fl.val I):=by
 have xd:x≠dct:=An e h.at';have ad:Hd dct=some (.dict [] Ab):=L.off _ _ xd.symm (Z AH (Z (U.ak ..) rfl));have b:∀{a:Addr},C a=none->H a=none:=fun z=>h.ext.none (AZ (AH▸z)).1;have g:∀a,Hd a=none->H a=none:=fun a z=>b (L.off.none (fun w=>by rw[w,aj]at z;exact jd z) z);have up:∀a o,H a=some o->Hd a=some o:=fun a o z=>L.off _ _ (An h.fx z) (Z AH (Ah e (h.ext _ _ z)));have A:∀(i:Nat) I,bK (fun y=>y=x\/y=dct) Hd I->∀{a W},[(u,[]),(s,[]),(r,[]),(p,[]),(n,[]),(E,Dh t .aF),(D,Dh t .aM),(F,Dh t .params)][i]?=some (a,W)->I a=some (.list W):=fun i I hE {a W} hp=>
  have l:=L.get i hp
  hE _ _ (fun w=>w.elim (Db l aj rfl) (Db l ad rfl)) l
 have ws:∀(I:U) (H':String->Addr) (K:V),bK (fun y=>y=x\/y=dct) Hd I->I x=some (.inst k.S (upd (qX f dct n p r s u) .aH K))->(∃Ab,I dct=some (.dict (t.names.map fun y=>(y,.ref (H' y))) Ab))->jP k Hd I t.names H'->cW k Hd I t.bM K->Q .none I:=fun I H' K B g2 g3 g4 g5=>
  q I _ (qL F D E n p r s u) dct N H' K
   {ext:=fun a o z=>B a o (fun w=>w.elim (An h.fx z) (An (h.ext.none e) z)) (up a o z),fx:=h.fx,at':=g2
    v:=⟨h.v.pA,h.v.nG,h.v.node,h.v.parent,h.v.bO,h.v.sort,h.v.strict⟩,args:=ea,bo:=h.bo,own:=rfl,dct:=g3,fd:=h.ext.none e,bnd:=g4.from g,sO:=rfl,self:=g5.bk g,nl:=rfl,nc:=rfl
    lst:=fun j rL=>NX (P:=fun j=>upd (qX f dct n p r s u) .aH K j=.ref (qL F D E n p r s u j)/\H (qL F D E n p r s u j)=none/\I (qL F D E n p r s u j)=some (.list (Dh t j))) rL
     ⟨h.v.pA,h.fp,A 7 I B rfl⟩ ⟨eF,fF,A 6 I B rfl⟩ ⟨eV,fV,A 5 I B rfl⟩ ⟨rfl,b c1,A 4 I B rfl⟩ ⟨rfl,b c2,A 3 I B rfl⟩ ⟨rfl,b c3,A 2 I B rfl⟩ ⟨rfl,b c4,A 1 I B rfl⟩ ⟨rfl,b c5,A 0 I B rfl⟩
    ue:=fun i hi j rL=>Pb (l:=aY.reverse) L.nd i (ky.mpr hi) j (ky.mpr rL)}
 have xs:=h.rep.dC h.fn;exact Q2 c h.fn (h.rep.base (aD.base up)) aj h.v.bO h.v.node h.v.pA (L.get 7 rfl) h.v.nG (up _ _ h.bo.bl) rfl ad rfl (ab xs.2.2.1 (ab h.sz (dd rfl))) (ab xs.2.2.2 (ab h.sz (dd rfl))) h.nn hm ws
theorem PE(c:Code X G k){i:U}{r j l:Addr}{t:T}{Q:V->U->Prop}(h:ik k H i x t pv f p r)
  (E:f .aM=.ref j) (F:i j=some (.list (Dh t .aM))) (H':H j=none) (ad:f .aF=.ref l) (K:i l=some (.list (Dh t .aF))) (xs:H l=none) (N:[l,j,p].Nodup) (ea:f .aR=.bool t.args) (b:m.getD 0 .aa=.ref x)
  (q:∀n f Ab g r P R,Jp k H n x t pv f Ab g r P R->Q .none n):Ep X (d+7) G i m (fun fl n Z=>Q fl.val n):=by
 refine Ju fun g s a=>?_;have e:=Ah (o:=.dict [] s) a h.at';have AH:Lay (i.set g (.dict [] s)) (i.set g (.dict [] s)) x [(l,Dh t .aF),(j,Dh t .aM),(p,Dh t .params)]:=
  ⟨fun Z Z Z z=>z,cw.mpr ⟨Ah a K,cw.mpr ⟨Ah a F,cw.mpr ⟨Ah a h.hpl,fun Z z=>absurd z am⟩⟩⟩,N⟩
 refine Aa b rfl _ ⟨x,k.S,f,rfl,e,c.jb,?_⟩;exact RV c Af (U.ak ..) (AH.nY e rfl) b fun u aj L=>JQ c aj L b fun r1 v W ws L=>JQ c ws L b fun r2 w rL x2 L=>JQ c x2 L b fun r3 y c3 x3 L=>JQ c x3 L b fun r4 A c4 x4 L=>
  RV c Af x4 L b fun B x5 L=>RV c Af x5 L b fun C x6 L=>JQ c x6 L b fun r5 D c5 x7 L=>TY c h E H' ad xs ea a rfl W rL c3 c4 c5 x7 L b q
theorem gm.uA{t:T}{a:V}{b c:Addr}(h:gm t pv b c f):gm t pv b c (upd f .aR a):=⟨h.pA,h.nG,h.node,h.parent,h.bO,h.sort,h.strict⟩
theorem gm.uF{t:T}{a b:V}{c d:Addr}(h:gm t pv c d f):gm t pv c d (upd (upd f .aM a) .aF b):=⟨h.pA,h.nG,h.node,h.parent,h.bO,h.sort,h.strict⟩
theorem PL(c:Code X G k){l:U}{C o r:Addr}{t:T}{Q:V->U->Prop}(h:ik k H l x t pv f C z)
  (E:f .aM=.ref o) (F:l o=some (.list (Dh t .aM))) (H':H o=none) (ad:f .aF=.ref r) (K:l r=some (.list (Dh t .aF))) (L:H r=none) (xs:[r,o,C].Nodup) (s:m.getD 0 .aa=.ref x)
  (q:∀n f N A z Ab P,Jp k H n x t pv f N A z Ab P->Q .none n):G7 X (d+7) G l m (fun fl n Z=>Q fl.val n):=by
 have i:∀Hd,aD l Hd->Ep X (d+7) G (Hd.set x (.inst k.S (upd f .aR (.bool t.args)))) m (fun fl n Z=>Q fl.val n):=fun Hd g=>
  PE c (h.step ((h.ext.trans g).fH h.fx) (U.ak ..) (AM (g _ _ h.hpl) (g _ _ h.at') rfl) h.v.uA) E (AM (g _ _ F) (g _ _ h.at') rfl) H' ad (AM (g _ _ K) (g _ _ h.at') rfl) L xs rfl s q
 have B:∀{j:At} {v:V},f j=v->jO v=false->mO v=false->Pv (Aj X j (O 0)) l m v:=fun e u b=>Am (Aa s rfl) (c.fS h.at' e u b);have y:=uM (B h.v.bO rfl rfl);cases h.bo with
 |prog p _ _ a _ _=>
  rw[a]at i;rw[p]at y;exact N0 (Ox y) (Aa s rfl) h.at' c.jb (i l (aD.refl l))
 |func v w R p _ _ a _ e=>
  rw[a]at i;rw[p]at y;have D:=h.rep.dC h.fn;exact Ju (OI (y _ ⟨true,rfl,lL (Ao (AD (B h.v.pA rfl rfl) (B h.v.nG rfl rfl)) (Ef c h.hpl (h.ext _ _ e) (D.2.1.ext h.ext) (ab D.2.2.1 (ab h.sz (dd rfl))) fun n g=>Aa s rfl _ ⟨x,k.S,f,rfl,g _ _ h.at',c.jb,i n g⟩) (dd rfl))⟩))
theorem Abc{b e:Addr}(c:a≠b)(d:a≠e)(f:b≠e):[a,b,e].Nodup:=
 cr.mpr ⟨fun z=>(bg.mp z).elim c fun z=>d (al.mp z),cr.mpr ⟨fun z=>f (al.mp z),cr.mpr ⟨am,d0⟩⟩⟩
theorem Rt(c:Code X G k){Hc:U}{pl aj:Addr}{t:T}{Q:V->U->Prop}(h:ik k H Hc x t pv f pl aj)(r:m.getD 0 .aa=.ref x)(W:3<m.length)
  (q:∀N f ls ws aj bd sv,Jp k H N x t pv f ls ws aj bd sv->Q .none N):I0 X (d+7) G Hc m (fun fl N v=>Q fl.val N):=by
 refine Bt (h.rep.dC h.fn) fun v s u hzp=>?_;have E:AS t.body<=50000:=ab u (ab h.sz (dd rfl));have rL:=h.ext _ _ h.bo.bl;have y:(Cw (A5 t.body)).length<=10000:=ab (Nz _) (ab (Fr _) (ab (A3 _) (ab u h.sz)));have H':(aF t.body).length<=10000:=ab (Ig _) (ab u h.sz);refine Ju (Ao (e₂:=7) (AG (Am (Aa r rfl) (c.fS h.at' h.v.nG rfl rfl))) (OQ (d:=d) c rL (s.ext h.ext) E fun l rF g ad A=>Aa r rfl _ ⟨x,k.S,f,rfl,g _ _ h.at',c.jb,?_⟩) (dd rfl));have e1:=g _ _ h.at';have p1:=g _ _ h.hpl;have K:rF≠pl:=(An ad h.hpl).symm;have L1:Lay l l x [(rF,Dh t .aM),(pl,Dh t .params)]:=⟨fun v v v z=>z,cw.mpr ⟨A,cw.mpr ⟨p1,fun v z=>absurd z am⟩⟩,
  cr.mpr ⟨fun z=>K (al.mp z),cr.mpr ⟨am,d0⟩⟩⟩
 refine JQ c (U.ak ..) (L1.nY e1 rfl) r fun rV aab L D Ab=>?_;have v2:=h.v.uF (a:=.ref rF) (b:=.ref rV);have ff:(upd (upd f At.aM (V.ref rF)) At.aF (V.ref rV)) .aM=.ref rF:=rfl;have fv:(upd (upd f At.aM (V.ref rF)) At.aF (V.ref rV)) .aF=.ref rV:=rfl;generalize(upd (upd f At.aM (V.ref rF)) At.aF (V.ref rV))=F at D v2 ff fv;have j:aD H aab:=fun a o z=>Ab.off _ _ (An h.fx z) (g _ _ (h.ext _ _ z));have B:aab rF=some (.list (cI (Cw (A5 t.body)))):=Ab.get 1 rfl;have C:aab rV=some (.list []):=Ab.get 0 rfl;refine MB (JN (Fg (Am (Aa r rfl) (c.fS D ff rfl rfl)) B (sz (Z (ac ..) (ab y (dd rfl)))) (HE c rfl B (bA.of fun t ht=>(s.mem (BT (NH ht)).1).ext j) (fun t ht=>(BT (NH ht)).2) fun r3 P=>?_)));refine Ao (e₂:=7) (AG (Am (Aa r rfl) (c.fS (Ah P D) v2.nG rfl rfl))) (Gc (d:=d) c (Ah P (j _ _ h.bo.bl)) (s.ext (j.trans (aD.set P))) E fun aan r4 xs h40 h41=>?_) (dd rfl);have p:aD aab aan:=(aD.set P).trans xs;refine KM (xs _ _ (U.ak ..)) h41 (sz (Z (ac ..) (Z (ac ..) (Z (ac ..) (ab (cc y H') (dd rfl)))))) fun r5 h5=>⟨r5,_,rfl,U.ak ..,?_⟩
 refine Z (ap bP) ?_;have i:=p.trans (aD.set (o:=.list ((((Cw (A5 t.body)).map T.bZ)++aF t.body).map .str)) h5);have nx:x≠rV:=Db D C rfl;have R:∀{a:Addr} {o:bI} (AH:List V),a≠rV->aab a=some o->((aan.set r5 (.list ((((Cw (A5 t.body)).map T.bZ)++aF t.body).map .str))).set rV (.list AH)) a=some o:=fun AH n z=>by refine Z (U.aC _ _ n) ?_;exact i _ _ z
 refine LH (d:=d+6) c (M:=[]) (U.ak ..) (i _ _ C) (fun w=>by rw[w,p _ _ C]at h5;exact jd h5) (Z kQ (Z (df ..) (Z ba (Z (ac ..) (ab (cc y H') (dd rfl)))))) W
  (fun AH m' e=>Am (Aa ((e 0 (dd rfl)).trans r) rfl) (c.fS (R AH nx D) fv rfl rfl)) fun m' v e=>jQ ?_
 have fV:H rV=none:=h.ext.none (g.none L);exact PL c (h.step ((j.trans i).fH fV) (R _ nx D) (R _ (An L p1) (Ab.get 2 rfl)) v2) ff (R _ (An L A) B) (h.ext.none ad) fv (U.ak ..) fV (Abc (An L A).symm (An L p1).symm K) ((e 0 (dd rfl)).trans r) q
variable{t:T}{bl:Addr}{A:WE}{S:WT}
theorem cG.ext{f:U}(h:cG N H t bl)(e:aD H f):cG N f t bl:=by
 cases h with
 |prog p n a b c d=>exact .prog p (e.base.bF n) a b c (e _ _ d)|func v w g p n a b c d=>exact .func v w g p (e.base.bF n) (e _ _ a) b c (e _ _ d)
theorem cG.evB(h:cG k.N H t bl)(c:Code X G k)(s:cP S H m t.bO)(a:Pv A H m (rf t)):Pv (je S (Ax (Aj X .parts A) (Ae (.int 0))) (Ax (Aj X .parts A) (Ae (.int 2)))) H m (.ref bl):=by
 cases h with
 |prog p n=>rw[p]at s;exact Mo s (n.part c a rfl rfl)
 |func v w b p n=>rw[p]at s;exact MK s (n.part c a rfl rfl)
theorem cG.yc(h:cG k.N H t bl)(c:Code X G k)(s:cP S H m t.bO)(a:Pv A H m (rf t)):Pv (je S (Ax (Aj X .parts A) (Ae (.int 1))) (Ax (Aj X .parts A) (Ae (.int 3)))) H m (.bool t.strict):=by
 cases h with
 |prog p n=>rw[p]at s;exact Mo s (n.part c a rfl rfl)
 |func v w b p n=>rw[p]at s;exact MK s (n.part c a rfl rfl)
theorem cG.zZ{R:V->U->Prop}(h:cG k.N H t bl)(c:Code X G k)(s:cP S H m t.bO)(a:Pv A H m (rf t))(b:t.ps.length<=10000)(q:∀r,H r=none->R (.ref r) (H.set r (.list (t.ps.map .str)))):je S (AF Ag) (Ai X d (G "list") (Ac (Ax (Aj X .parts A) (Ae (.int 1))) Ag)) H m R:=by
 cases h with
 |prog p _ e=>rw[p]at s;rw[e]at q;exact s _ (lL (AX A4 (bq _) q))
 |func v w f p n e=>rw[p]at s;exact Z c.kY (s _ (gF (AG (n.part c a rfl rfl) _ (Q0 e (sz (Z (ac ..) (ab b (dd rfl)))) q))))
theorem xu(t:T):decide (t.kind="Program")=t.bO:=by cases t<;>rfl
theorem YX{b:Bool}(s:cP S H m b):Pv (je S (Ae (.str "program")) (Ae (.str "function"))) H m (.str (if b then "program" else "function")):=by
 cases b with
 |true=>exact Mo s Af|false=>exact MK s Af
theorem SR(c:Code X G k){Q:V->U->Prop}(ht:t.aK=true)(hR:Rep k.N H t)(hpv:jO pv=false)(hz:t.size<=10000)(hn:t.names.length<1000)
  (q:∀I x f ls dct bl bd sv,Jp k H I x t pv f ls dct bl bd sv->Q (.ref x) I):aG X (d+9) H (G "Scope") [rf t,pv] Q:=by
 refine Ad c.nS fun fi hf N=>Z c.gS (GI N fun x hx=>Z (ap hf) ?_);obtain⟨⟨bl,hb⟩,hRb,hzb,hzp⟩:=hR.dC ht;have p0:∀{H:U},Pv (O 0) H ([.ref x,rf t,pv]++f6 6 .aa) (.ref x):=Aa rfl rfl;have p1:∀{H:U},Pv (O 1) H ([.ref x,rf t,pv]++f6 6 .aa) (rf t):=Aa rfl rfl;have ti:∀{H:U} {f:At->V},H x=some (.inst k.S f)->f .bN=.bool t.bO->cP (Av (Aj X .bN (O 0))) H ([.ref x,rf t,pv]++f6 6 .aa) t.bO:=fun e w=>AJ (Am p0 (c.fS e w rfl rfl));refine c.fL.call rfl (Cg p1 p0 c.jb (Cg (Aa rfl hpv) p0 c.jb (Cg ((hR.ext (aD.set hx)).mU c p1 (xu t)) p0 c.jb (Cg (YX (ti (U.ak ..) rfl)) p0 c.jb
  (Ju ((hb.ext (aD.set hx)).zZ c (ti (U.ak ..) rfl) p1 (ab hzp hz) fun r hr=>p0 _ ⟨x,k.S,_,rfl,Ah hr (U.ak ..),c.jb,?_⟩))))))
 have hrx:r≠x:=(An hr (U.ak ..)).symm;have hE:∀{o p:bI},aD H (((H.set x o).set r (.list (t.ps.map .str))).set x p):=fun{o p}=>((aD.set hx).trans (aD.set (Z (U.aC _ _ hrx) ((AZ hr).1)))).fH hx;exact Cg ((hb.ext hE).evB c (ti (U.ak ..) rfl) p1) p0 c.jb (Cg ((hb.ext hE).yc c (ti (U.ak ..) rfl) p1) p0 c.jb
  (Rt (H:=H) (Q:=fun v I=>v=.none/\Q (.ref x) I) c ⟨ht,hR,hE,hx,U.ak ..,(AZ hr).1,by exact Z (U.aC _ _ hrx) (Z (U.ak ..) rfl),⟨rfl,rfl,rfl,rfl,rfl,rfl,rfl⟩,hz,hn,hb⟩ rfl (dd rfl:3<9) fun I f ls dct bl bd sb h=>⟨rfl,q I x f ls dct bl bd sb h⟩))
structure W6(k:fW)(H I:U)(x a:Addr)(nm:String)(pv:V)(f:At->V)(cb:Addr):Prop where
 ext:aD H I
 fx:H x=none
 at':I x=some (.inst k.C f)
 node:f .node=.ref a
 parent:f .parent=pv
 sort:f .sort=.str "catch"
 name:f .name=.str nm
 cU:f .cU=.ref cb
 fc:H cb=none
 cb:I cb=some (.inst k.B (Ok nm "catch"))
theorem Oh(c:Code X G k){h:List T}{m:String}{Q:V->U->Prop}(r:Rep k.N H (.tr a b m h))(j:jO pv=false)
  (q:∀o x f l,W6 k H o x a m pv f l->Q (.ref x) o):aG X (d+4) H (G "CatchScope") [.ref a,pv] Q:=by
 refine Ad c.nC fun t s N=>Z c.gC (GI N fun x i=>Z (ap s) (AQ r fun bl u n z=>?_));have g:∀{H:U},Pv (O 0) H ([.ref x,.ref a,pv]++f6 1 .aa) (.ref x):=Aa rfl rfl;have p:∀{H:U},Pv (O 1) H ([.ref x,.ref a,pv]++f6 1 .aa) (.ref a):=Aa rfl rfl;refine c.dg.call rfl (Cg p g c.mz (Cg (Aa rfl j) g c.mz (Cg Af g c.mz (Cg (((aD.set i).base.bF n).part c p rfl rfl) g c.mz
  (VT (Ao (AD (Am g (c.fC (U.ak ..) rfl rfl rfl)) Af) (JO c fun l e=>g _ ⟨x,k.C,_,rfl,Ah e (U.ak ..),c.mz,rfl,q _ x _ l ⟨?_,i,U.ak ..,rfl,rfl,rfl,rfl,rfl,(AZ e).1,?_⟩⟩) (dd rfl)))))))
 ·exact((aD.set i).trans (aD.set e)).fH i
 ·exact Z (U.aC _ _ (An e (U.ak ..)).symm) (Z (U.ak ..) rfl)
inductive BS where
 |own|self|cat
 deriving DecidableEq
noncomputable def BS.str:BS->String
 |.own=>"own"|.self=>"self"|.cat=>"catch"
structure BK where
 sort:BS
 node:Addr
 name:String
 deriving DecidableEq
def T.keys(v:T):List BK:=v.names.map (fun y=>⟨if v.aK then .own else .cat,v.aq,y⟩)++(v.bM.map fun y=>⟨.self,v.aq,y⟩).toList
theorem NQ{v:T}{b:BK}(h:b∈v.keys):b.node=v.aq:=by
 rcases bX.mp h with h|h
 ·exact Ad (bn.mp h) fun y z e=>Z (ap e) rfl
 ·exact Ad (hM.mp (tj.mp h)) fun y z e=>Z (ap e) rfl
def oX:List T->Addr
 |[]=>0
 |v::_=>v.aq
noncomputable def gY:List T->Addr
 |[]=>0
 |v::vs=>if v.aK then v.aq else gY vs
mutual
noncomputable def He(c:List T):T->List (List T×String)
 |.name _ x=>[(c,x)]
 |.num _=>[]
 |.var _ x _=>[(c,x)]
 |.expr _ t=>He c t
 |.func a e ps b s d=>aU (.func a e ps b s d::c) b
 |.tr a b x h=>aU c b++aU (.tr a b x h::c) h
 |.prog _ b=>aU c b
noncomputable def aU(c:List T):List T->List (List T×String)
 |[]=>[]
 |t::ts=>He c t++aU c ts
end
mutual
noncomputable def mR(c:List T):T->List (List T)
 |.func a e ps b s d=>(.func a e ps b s d::c)::gr (.func a e ps b s d::c) b
 |.tr a b x h=>(.tr a b x h::c)::(gr c b++gr (.tr a b x h::c) h)
 |.expr _ t=>mR c t
 |.prog _ b=>gr c b
 |.name ..=>[]
 |.num ..=>[]
 |.var ..=>[]
noncomputable def gr(c:List T):List T->List (List T)
 |[]=>[]
 |t::ts=>mR c t++gr c ts
end
theorem Nu(c ts us:List T):aU c (ts++us)=aU c ts++aU c us:=by
 induction ts with
 |nil=>rfl|cons t ts a=>exact(congrArg (He c t++·) a).trans (ci ..).symm
theorem S6(c ts us:List T):gr c (ts++us)=gr c ts++gr c us:=by
 induction ts with
 |nil=>rfl|cons t ts a=>exact(congrArg (mR c t++·) a).trans (ci ..).symm
structure Loc where
 sc:Addr->Addr
 bd:BK->Addr
 ls:Addr->At->Addr
 dc:Addr->Addr
structure cD where
 lst:Addr->At->List V
 cap:BK->Bool
 aQ:BK->Option (String×Nat)
 nl:Addr->Nat
 nc:Addr->Nat
def aZ(L:Loc)(c:List T):V:=.ref (L.sc (oX c))
def JI(L:Loc):List T->V
 |[]=>.none
 |u::us=>aZ L (u::us)
structure mQ(L:Loc)(D:cD)(v:T)(vs:List T)(f:At->V):Prop where
 node:f .node=rf v
 parent:f .parent=JI L vs
 bO:f .bN=.bool v.bO
 sort:f .sort=.str (if v.bO then "program" else "function")
 strict:f .d8=.bool v.strict
 args:f .aR=.bool v.args
 own:f .own=.ref (L.dc v.aq)
 self:f .aH=(match v.bM with|none=>.none|some y=>.ref (L.bd ⟨.self,v.aq,y⟩))
 nl:f .bD=.int (D.nl v.aq)
 nc:f .bQ=.int (D.nc v.aq)
 lst:∀j∈aY,f j=.ref (L.ls v.aq j)
structure tu(L:Loc)(v:T)(vs:List T)(f:At->V):Prop where
 node:f .node=rf v
 parent:f .parent=JI L vs
 sort:f .sort=.str "catch"
 name:∀y∈v.names,f .name=.str y/\f .cU=.ref (L.bd ⟨.cat,v.aq,y⟩)
def cC(H:U)(x:V):Option (String×Nat)->Prop
 |none=>x=.none
 |some (s,n)=>∃p,x=.ref p/\H p=some (.tup [.str s,.int n])
structure mq(H:U)(D:cD)(b:BK)(g:At->V):Prop where
 name:g .name=.str b.name
 sort:g .sort=.str b.sort.str
 cap:g .cB=.bool (D.cap b)
 aQ:cC H (g .place) (D.aQ b)
noncomputable def T.kE:T->Bool
 |.tr ..=>true
 |.name ..=>false
 |.num ..=>false
 |.var ..=>false
 |.expr ..=>false
 |.func ..=>false
 |.prog ..=>false
structure iu(H0:U)(L:Loc)(R:List (List T)):Prop where
 ne:[]∉R
 knd:∀v vs,v::vs∈R->v.aK=true\/v.kE=true
 lY:∀v u us,v::u::us∈R->u::us∈R
 jf:∀v vs w Y,v::vs∈R->w::Y∈R->v.aq=w.aq->v::vs=w::Y
 rz:∀v vs w Y,v::vs∈R->w::Y∈R->L.sc v.aq=L.sc w.aq->v.aq=w.aq
 qQ:∀v vs w Y,v::vs∈R->w::Y∈R->∀b∈v.keys,∀b'∈w.keys,L.bd b=L.bd b'->b=b'
 pD:∀v vs w Y,v::vs∈R->w::Y∈R->v.aK=true->w.aK=true->∀i∈aY,∀j∈aY,L.ls v.aq i=L.ls w.aq j->v.aq=w.aq/\i=j
 fsc:∀v vs,v::vs∈R->H0 (L.sc v.aq)=none
 q8:∀v vs,v::vs∈R->∀b∈v.keys,H0 (L.bd b)=none
 pg:∀v vs,v::vs∈R->v.aK=true->∀j∈aY,H0 (L.ls v.aq j)=none
structure St(k:fW)(H0 H:U)(L:Loc)(D:cD)(R:List (List T)):Prop where
 pure:iu H0 L R
 fn:∀v vs,v::vs∈R->v.aK=true->∃f,H (L.sc v.aq)=some (.inst k.S f)/\mQ L D v vs f
 ca:∀v vs,v::vs∈R->v.aK=false->∃f,H (L.sc v.aq)=some (.inst k.C f)/\tu L v vs f
 bd:∀v vs,v::vs∈R->∀b∈v.keys,∃g,H (L.bd b)=some (.inst k.B g)/\mq H D b g
 ls:∀v vs,v::vs∈R->v.aK=true->∀j∈aY,H (L.ls v.aq j)=some (.list (D.lst v.aq j))
 dc:∀v vs,v::vs∈R->v.aK=true->∃ep,H (L.dc v.aq)=some (.dict (v.names.map fun y=>(y,.ref (L.bd ⟨.own,v.aq,y⟩))) ep)
 nd:∀v vs,v::vs∈R->∃f,H v.aq=some (.inst k.N f)/\f .scope=.ref (L.sc v.aq)
theorem BC{o b x:bI}(e:H a=some o)(c:H z=some b)(n:o≠b):(H.set z x) a=some o:=Z (U.aC _ _ (fun w=>n (by rw[w,c]at e;exact(ag e).symm))) e
theorem Cq{C D:Addr}{g:At->V}(h:C≠D):bI.inst C f≠bI.inst D g:=fun z=>by injection z with z;exact h z
variable{D':cD}{vs:List T}
theorem mQ.dyn{L:Loc}{D:cD}{v:T}(z:mQ L D v vs f)(a:D'.nl v.aq=D.nl v.aq)(b:D'.nc v.aq=D.nc v.aq):mQ L D' v vs f:=
 ⟨z.node,z.parent,z.bO,z.sort,z.strict,z.args,z.own,z.self,a▸z.nl,b▸z.nc,z.lst⟩
theorem cC.ext{I:U}{x:V}{o:Option (String×Nat)}(h:cC H x o)(k:∀a M,H a=some (.tup M)->I a=some (.tup M)):cC I x o:=by
 cases o with
 |none=>exact h|some p=>refine Ad h fun p e b=>?_;exact⟨p,e,k _ _ b⟩
theorem mq.ext{I:U}{D:cD}{b:BK}{g:At->V}(h:mq H D b g)(k:∀a M,H a=some (.tup M)->I a=some (.tup M)):mq I D b g:=⟨h.name,h.sort,h.cap,h.aQ.ext k⟩
variable{H0 I:U}{L:Loc}{D:cD}{R:List (List T)}
theorem St.ext(h:St k H0 H L D R)(e:aD H I):St k H0 I L D R where
 pure:=h.pure
 fn v vs m i:=(h.fn v vs m i).imp fun f q=>⟨e _ _ q.1,q.2⟩
 ca v vs m i:=(h.ca v vs m i).imp fun f q=>⟨e _ _ q.1,q.2⟩
 bd v vs m b hb:=(h.bd v vs m b hb).imp fun f q=>⟨e _ _ q.1,q.2.ext fun a c z=>e _ _ z⟩
 ls v vs m i j hj:=e _ _ (h.ls v vs m i j hj)
 dc v vs m i:=(h.dc v vs m i).imp fun f q=>e _ _ q
 nd v vs m:=(h.nd v vs m).imp fun f q=>⟨e _ _ q.1,q.2⟩
theorem St.pX(h:St k H0 H L D R){ys:List V}(e:H z=some (.list M))(c:D'.nl=D.nl)(d:D'.nc=D.nc)(g:D'.cap=D.cap)(l:D'.aQ=D.aQ)
  (n:∀v vs,v::vs∈R->v.aK=true->∀j∈aY,(H.set z (.list ys)) (L.ls v.aq j)=some (.list (D'.lst v.aq j))):St k H0 (H.set z (.list ys)) L D' R where
 pure:=h.pure
 fn v vs m i:=(h.fn v vs m i).imp fun f q=>⟨AM q.1 e rfl,q.2.dyn (congrFun c _) (congrFun d _)⟩
 ca v vs m i:=(h.ca v vs m i).imp fun f q=>⟨AM q.1 e rfl,q.2⟩
 bd v vs m b hb:=(h.bd v vs m b hb).imp fun f q=>⟨AM q.1 e rfl,⟨q.2.name,q.2.sort,g▸q.2.cap,l▸q.2.aQ.ext fun a M w=>AM w e rfl⟩⟩
 ls:=n
 dc v vs m i:=(h.dc v vs m i).imp fun f q=>AM q e rfl
 nd v vs m:=(h.nd v vs m).imp fun f q=>⟨AM q.1 e rfl,q.2⟩
theorem St.lD(h:St k H0 H L D R){ys:List V}(e:H z=some (.list M))(b:∀v vs,v::vs∈R->v.aK=true->∀j∈aY,L.ls v.aq j≠z):St k H0 (H.set z (.list ys)) L D R:=
 h.pX e rfl rfl rfl rfl fun v vs m i j a=>by refine Z (U.aC _ _ (b v vs m i j a)) ?_;exact h.ls v vs m i j a
noncomputable def cD.cA(D:cD)(a:Addr)(j:At)(M:List V):cD:={D with lst:=fun b i=>if b=a/\i=j then M else D.lst b i}
theorem St.cA(h:St k H0 H L D R){v:T}(c:v::vs∈R)(d:v.aK=true)(e:j∈aY):St k H0 (H.set (L.ls v.aq j) (.list M)) L (D.cA v.aq j M) R:=
 h.pX (h.ls v vs c d j e) rfl rfl rfl rfl fun w f m i b a=>by
  by_cases q:w.aq=v.aq/\b=j
  ·exact Z q.1 (Z q.2 (Z (U.ak ..) (congrArg (fun l=>some (bI.list l)) (if_pos ⟨rfl,rfl⟩).symm)))
  ·exact Z (U.aC _ _ (fun z=>q (h.pure.pD w f v vs m c i d b a j e z))) (Z (h.ls w f m i b a) (congrArg (fun l=>some (bI.list l)) (if_neg q).symm))
noncomputable def cD.kj(D:cD)(b:BK):cD:={D with cap:=fun a=>if a=b then true else D.cap a}
noncomputable def cD.rR(D:cD)(b:BK)(p:String×Nat):cD:={D with aQ:=fun a=>if a=b then some p else D.aQ a}
theorem St.setB(l:k.N≠k.B)(n:k.S≠k.B)(o:k.B≠k.C)(h:St k H0 H L D R){v:T}{b:BK}{g':At->V}(r:v::vs∈R)(s:b∈v.keys)(u:D'.lst=D.lst)(x:D'.nl=D.nl)(A:D'.nc=D.nc)
  (t:∀d,d≠b->D'.cap d=D.cap d/\D'.aQ d=D.aQ d) (E:mq H D' b g'):St k H0 (H.set (L.bd b) (.inst k.B g')) L D' R:=by
 refine Ad (h.bd v vs r b s) fun g e Y=>?_;exact
 {pure:=h.pure
  fn:=fun w c m i=>(h.fn w c m i).imp fun f q=>⟨BC q.1 e (Cq n),q.2.dyn (congrFun x _) (congrFun A _)⟩
  ca:=fun w c m i=>(h.ca w c m i).imp fun f q=>⟨BC q.1 e (Cq o.symm),q.2⟩
  bd:=fun w c m d j=>by
   by_cases q:d=b
   ·exact Z q ⟨g',U.ak ..,E.ext fun a F w=>AM w e rfl⟩
   ·exact Z (U.aC _ _ (fun y=>q (h.pure.qQ w c v vs m r d j b s y))) ((h.bd w c m d j).imp fun f z=>⟨z.1,⟨z.2.name,z.2.sort,(t d q).1▸z.2.cap,(t d q).2▸z.2.aQ.ext fun a F w=>AM w e rfl⟩⟩)
  ls:=fun w c m i G p=>u▸AM (h.ls w c m i G p) e rfl
  dc:=fun w c m i=>(h.dc w c m i).imp fun f q=>AM q e rfl
  nd:=fun w c m=>(h.nd w c m).imp fun f q=>⟨BC q.1 e (Cq l),q.2⟩}
theorem St.o8(c:k.N≠k.S)(d:k.S≠k.B)(j:k.S≠k.C)(h:St k H0 H L D R){v:T}{l:At->V}(n:v::vs∈R)(s:v.aK=true)(t:D'.lst=D.lst)(u:D'.cap=D.cap)(x:D'.aQ=D.aQ)
  (r:∀a,a≠v.aq->D'.nl a=D.nl a/\D'.nc a=D.nc a) (A:mQ L D' v vs l):St k H0 (H.set (L.sc v.aq) (.inst k.S l)) L D' R:=by
 refine Ad (h.fn v vs n s) fun g e Y=>?_;exact
 {pure:=h.pure
  fn:=fun w b m i=>by
   by_cases q:w.aq=v.aq
   ·exact aV (bS (h.pure.jf w b v vs m n q)) fun E F=>Z E (Z F ⟨l,U.ak ..,A⟩)
   ·exact Z (U.aC _ _ (fun y=>q (h.pure.rz w b v vs m n y))) ((h.fn w b m i).imp fun f z=>⟨z.1,z.2.dyn (r _ q).1 (r _ q).2⟩)
  ca:=fun w b m i=>(h.ca w b m i).imp fun f q=>⟨BC q.1 e (Cq j.symm),q.2⟩
  bd:=fun w b m G o=>(h.bd w b m G o).imp fun f q=>⟨BC q.1 e (Cq d.symm),⟨q.2.name,q.2.sort,u▸q.2.cap,x▸q.2.aQ.ext fun a ad w=>AM w e rfl⟩⟩
  ls:=fun w b m i H' p=>t▸AM (h.ls w b m i H' p) e rfl
  dc:=fun w b m i=>(h.dc w b m i).imp fun f q=>AM q e rfl
  nd:=fun w b m=>(h.nd w b m).imp fun f q=>⟨BC q.1 e (Cq c),q.2⟩}
def Ez(L:Loc)(v:T)(x:Addr)(nb:BK->Addr)(nls:At->Addr)(ndc:Addr):Loc:=
 {sc:=fun a=>if a=v.aq then x else L.sc a,bd:=fun b=>if b.node=v.aq then nb b else L.bd b,ls:=fun a j=>if a=v.aq then nls j else L.ls a j,dc:=fun a=>if a=v.aq then ndc else L.dc a}
def WO(D:cD)(v:T):cD:={D with lst:=fun a j=>if a=v.aq then Dh v j else D.lst a j}
theorem Base.none(h:Base N H I)(e:I a=Option.none):H a=Option.none:=by
 cases z:H a with
 |none=>rfl|some o=>
  by_cases q:∃f,o=.inst N f
  ·refine AA q fun f q=>Ad (h.node a f (q▸z)) fun c b y=>?_;rw[e]at b;exact gU b
  ·rw[h.oth a o z fun f w=>q ⟨f,w⟩]at e;exact jd e
theorem Base.fY(h:Base N H I){o:bI}(e:H a=Option.none):Base N H (I.set a o):=
 ⟨fun b f z=>by
  exact Ad (h.node b f z) fun c d q=>⟨c,by refine Z (U.aC _ _ (An (e) z)) ?_;exact d,q⟩,
  fun b p z n=>by refine Z (U.aC _ _ (An (e) z)) ?_;exact h.oth b p z n⟩
theorem Base.kZ(h:Base N H I){v:V}(e:I a=some (.inst N f)):Base N H (I.set a (.inst N (upd f .scope v))):=
 ⟨fun b g z=>by
  refine Ad (h.node b g z) fun i c q=>?_;by_cases w:b=a
  ·rw[w]at c ⊢;rw[O2 c e]at q;exact⟨_,U.ak ..,fun j d=>(if_neg d).trans (q j d)⟩
  ·exact⟨i,by refine Z (U.aC _ _ w) ?_;exact c,q⟩,
  fun b p z n=>BC (h.oth b p z n) e (n f)⟩
theorem bz{v:T}{P:T->List T->Prop}(a:∀w Y,w::Y∈R->P w Y)(b:P v vs):∀w Y,w::Y∈R++[v::vs]->P w Y:=fun w Y m=>by
 rcases bX.mp m with m|m
 ·exact a w Y m
 ·exact aV (bS (al.mp m)) fun c d=>Z c (Z d b)
theorem GO{v:T}{P:T->List T->T->List T->Prop}(b:∀w Y x M,w::Y∈R->x::M∈R->P w Y x M)(c:∀w Y,w::Y∈R->P w Y v vs)(d:∀w Y,w::Y∈R->P v vs w Y)(e:P v vs v vs):∀w Y x M,w::Y∈R++[v::vs]->x::M∈R++[v::vs]->P w Y x M:=fun w Y x M m a=>
 bz (fun w Y m=>bz (fun x M a=>b w Y x M m a) (c w Y m) x M a) (bz d e x M a) w Y m
theorem HZ{v:T}{nb:BK->Addr}{nls:At->Addr}{ndc:Addr}{Y:List T}(h:∀u us,Y=u::us->u.aq≠v.aq):JI (Ez L v x nb nls ndc) Y=JI L Y:=by
 cases Y with
 |nil=>rfl|cons u us=>exact congrArg V.ref (if_neg (h u us rfl))
theorem St.add(Q:k.N≠k.S)(AH:k.N≠k.B)(aj:k.N≠k.C)(h:St k H0 H L D R)(hB:Base k.N H0 H){v:T}(hk:v.aK=true\/v.kE=true)(hp:vs=[]\/vs∈R)(c:∀w Y,w::Y∈R->w.aq≠v.aq)(t:aD H I){fN:At->V}(eN:H v.aq=some (.inst k.N fN))
   {nb:BK->Addr} {nls:At->Addr} {ndc:Addr} (hx:H x=none) (W:∀b∈v.keys,H (nb b)=none) (inb:∀b∈v.keys,∀b'∈v.keys,nb b=nb b'->b=b') (F:v.aK=true->∀j∈aY,H (nls j)=none) (pD:v.aK=true->∀i∈aY,∀j∈aY,nls i=nls j->i=j)
  (hfn:v.aK=true->∃f,I x=some (.inst k.S f)/\mQ (Ez L v x nb nls ndc) (WO D v) v vs f) (hca:v.aK=false->∃f,I x=some (.inst k.C f)/\tu (Ez L v x nb nls ndc) v vs f)
  (hbd:∀b∈v.keys,∃g,I (nb b)=some (.inst k.B g)/\mq I D b g) (hli:v.aK=true->∀j∈aY,I (nls j)=some (.list (Dh v j))) (hdc:v.aK=true->∃ep,I ndc=some (.dict (v.names.map fun y=>(y,.ref (nb ⟨.own,v.aq,y⟩))) ep)) :
  St k H0 (I.set v.aq (.inst k.N (upd fN .scope (.ref x)))) (Ez L v x nb nls ndc) (WO D v) (R++[v::vs]):=by
 have eN':=t _ _ eN;have A:∀{a},a≠v.aq->(Ez L v x nb nls ndc).sc a=L.sc a:=fun h=>if_neg h;have G:∀{a j},a≠v.aq->(Ez L v x nb nls ndc).ls a j=L.ls a j:=fun h=>if_neg h;have ad:∀{b:BK} {w Y},w::Y∈R->b∈w.keys->(Ez L v x nb nls ndc).bd b=L.bd b:=fun m d=>if_neg (by refine Z (NQ d) ?_;exact c _ _ m);have K:(Ez L v x nb nls ndc).sc v.aq=x:=if_pos rfl;have xs:∀{j},(Ez L v x nb nls ndc).ls v.aq j=nls j:=if_pos rfl;have Ab:∀{b:BK},b∈v.keys->(Ez L v x nb nls ndc).bd b=nb b:=fun h=>if_pos (NQ h);have X:∀w Y,w::Y∈R->L.sc w.aq≠x:=fun w Y m=>by
  cases q:w.aK with
  |true=>refine Ad (h.fn _ _ m q) fun f e S=>?_;exact An hx e
  |false=>refine Ad (h.ca _ _ m q) fun f e S=>?_;exact An hx e
 have ws:∀w Y,w::Y∈R->∀b∈w.keys,∀b'∈v.keys,L.bd b≠nb b':=fun w Y m b d b' l=>by
  exact Ad (h.bd _ _ m b d) fun g e S=>An (W b' l) e
 have r:∀{a o},I a=some o->o≠.inst k.N fN->(I.set v.aq (.inst k.N (upd fN .scope (.ref x)))) a=some o:=fun{a o} e n=>BC e eN' n;exact
 {pure:=
  {ne:=fun m=>(bX.mp m).elim h.pure.ne fun m=>dP _ _ (al.mp m).symm
   knd:=bz h.pure.knd hk
   lY:=fun w u s m=>bz (P:=fun w Y=>∀u s,Y=u::s->u::s∈R++[v::vs]) (fun w Y m u s e=>cq _ (h.pure.lY w u s (e▸m))) (fun u s e=>cq _ (hp.elim (fun z=>absurd (e.symm.trans z) (dP _ _)) fun z=>e▸z)) w (u::s) m u s rfl
   jf:=GO (P:=fun w Y x M=>w.aq=x.aq->w::Y=x::M) h.pure.jf (fun w Y m e=>absurd e (c _ _ m)) (fun w Y m e=>absurd e.symm (c _ _ m)) fun S=>rfl
   rz:=GO (P:=fun w Y y rL=>(Ez L v x nb nls ndc).sc w.aq=(Ez L v x nb nls ndc).sc y.aq->w.aq=y.aq) (fun w Y y rL m E e=>by rw[A (c _ _ m),A (c _ _ E)]at e;exact h.pure.rz _ _ _ _ m E e)
    (fun w Y m e=>by rw[A (c _ _ m),K]at e;exact absurd e (X _ _ m)) (fun w Y m e=>by rw[A (c _ _ m),K]at e;exact absurd e.symm (X _ _ m)) fun S=>rfl
   qQ:=GO (P:=fun w Y y rL=>∀b∈w.keys,∀b'∈y.keys,(Ez L v x nb nls ndc).bd b=(Ez L v x nb nls ndc).bd b'->b=b') (fun w Y y rL m E b d b' l e=>by rw[ad m d,ad E l]at e;exact h.pure.qQ _ _ _ _ m E b d b' l e)
    (fun w Y m b d b' l e=>by rw[ad m d,Ab l]at e;exact absurd e (ws _ _ m b d b' l)) (fun w Y m b d b' l e=>by rw[Ab d,ad m l]at e;exact absurd e.symm (ws _ _ m b' l b d)) fun b d b' l e=>by rw[Ab d,Ab l]at e;exact inb b d b' l e
   pD:=GO (P:=fun w Y y rL=>w.aK=true->y.aK=true->∀i∈aY,∀j∈aY,(Ez L v x nb nls ndc).ls w.aq i=(Ez L v x nb nls ndc).ls y.aq j->w.aq=y.aq/\i=j)
    (fun w Y y rL m E f f' i H' j p e=>by rw[G (c _ _ m),G (c _ _ E)]at e;exact h.pure.pD _ _ _ _ m E f f' i H' j p e)
    (fun w Y m f f' i H' j p e=>by rw[G (c _ _ m),xs]at e;exact absurd e (An (F f' j p) (h.ls _ _ m f i H'))) (fun w Y m f f' i H' j p e=>by rw[G (c _ _ m),xs]at e;exact absurd e.symm (An (F f i H') (h.ls _ _ m f' j p)))
    fun f S i H' j p e=>by rw[xs,xs]at e;exact⟨rfl,pD f i H' j p e⟩
   fsc:=bz (fun w Y m=>by refine Z (A (c _ _ m)) ?_;exact h.pure.fsc _ _ m) (by refine Z K ?_;exact hB.none hx)
   q8:=bz (fun w Y m b d=>by refine Z (ad m d) ?_;exact h.pure.q8 _ _ m b d) fun b d=>by refine Z (Ab d) ?_;exact hB.none (W b d)
   pg:=bz (fun w Y m f j p=>by refine Z (G (c _ _ m)) ?_;exact h.pure.pg _ _ m f j p) fun f j p=>by refine Z xs ?_;exact hB.none (F f j p)}
  fn:=bz (fun w Y m i=>by
    refine Ad (h.fn _ _ m i) fun f e z=>Z (A (c _ _ m)) ⟨f,r (t _ _ e) (Cq Q.symm),⟨z.node,by refine Z (HZ fun u s e=>by rw[e]at m;exact c _ _ (h.pure.lY _ _ _ m)) ?_;exact z.parent,z.bO,z.sort,z.strict,z.args,z.own.trans (congrArg V.ref (if_neg (c _ _ m)).symm),z.self.trans ?_,z.nl,z.nc,fun j p=>by refine Z (G (c _ _ m)) ?_;exact z.lst j p⟩⟩;cases w.bM with
    |none=>rfl|some y=>exact congrArg V.ref (if_neg (c _ _ m)).symm)
   fun i=>by refine Z K ?_;exact(hfn i).imp fun f z=>⟨r z.1 (Cq Q.symm),z.2⟩
  ca:=bz (fun w Y m i=>by
    refine Ad (h.ca _ _ m i) fun f e z=>Z (A (c _ _ m)) ?_;exact⟨f,r (t _ _ e) (Cq aj.symm),⟨z.node,by refine Z (HZ fun u s e=>by rw[e]at m;exact c _ _ (h.pure.lY _ _ _ m)) ?_;exact z.parent,z.sort,fun y hy=>⟨(z.name y hy).1,(z.name y hy).2.trans (congrArg V.ref (if_neg (c _ _ m)).symm)⟩⟩⟩)
   fun i=>by refine Z K ?_;exact(hca i).imp fun f z=>⟨r z.1 (Cq aj.symm),z.2⟩
  bd:=bz (fun w Y m b d=>by
    refine Z (ad m d) ?_;exact(h.bd _ _ m b d).imp fun g z=>⟨r (t _ _ z.1) (Cq AH.symm),⟨z.2.name,z.2.sort,z.2.cap,z.2.aQ.ext fun a M w=>r (t _ _ w) (Bu rfl)⟩⟩)
   fun b d=>by refine Z (Ab d) ?_;exact(hbd b d).imp fun g z=>⟨r z.1 (Cq AH.symm),⟨z.2.name,z.2.sort,z.2.cap,z.2.aQ.ext fun a M w=>r w (Bu rfl)⟩⟩
  ls:=bz (fun w Y m i j p=>by refine Z (G (c _ _ m)) (Z (show(WO D v).lst w.aq j=D.lst w.aq j from if_neg (c _ _ m)) ?_);exact r (t _ _ (h.ls _ _ m i j p)) (Bu rfl))
   fun i j p=>by refine Z xs (Z (show(WO D v).lst v.aq j=Dh v j from if_pos rfl) ?_);exact r (hli i j p) (Bu rfl)
  dc:=bz (fun w Y m i=>by
    refine Z (show(Ez L v x nb nls ndc).dc w.aq=L.dc w.aq from if_neg (c _ _ m)) (Z (fz fun y S=>congrArg (fun a=>(y,V.ref a)) (show(Ez L v x nb nls ndc).bd ⟨.own,w.aq,y⟩=L.bd ⟨.own,w.aq,y⟩from if_neg (c _ _ m))) ?_);exact(h.dc _ _ m i).imp fun ep e=>r (t _ _ e) (Bu rfl))
   fun i=>by
    exact Z (show(Ez L v x nb nls ndc).dc v.aq=ndc from if_pos rfl) (Z (fz fun y S=>congrArg (fun a=>(y,V.ref a)) (show(Ez L v x nb nls ndc).bd ⟨.own,v.aq,y⟩=nb ⟨.own,v.aq,y⟩from if_pos rfl)) ((hdc i).imp fun ep e=>r e (Bu rfl)))
  nd:=bz (fun w Y m=>by refine Z (A (c _ _ m)) (Z (U.aC _ _ (c _ _ m)) ?_);exact(h.nd _ _ m).imp fun f z=>⟨t _ _ z.1,z.2⟩) (by refine Z K ?_;exact⟨_,U.ak ..,rfl⟩)}
structure cD.Zero(D:cD):Prop where
 cap:∀b,D.cap b=false
 aQ:∀b,D.aQ b=none
 nl:∀a,D.nl a=0
 nc:∀a,D.nc a=0
theorem cD.Zero.add(z:D.Zero)(v:T):(WO D v).Zero:=⟨z.cap,z.aQ,z.nl,z.nc⟩
theorem cD.Zero.cA(z:D.Zero)(a:Addr)(j:At)(M:List V):(D.cA a j M).Zero:=⟨z.cap,z.aQ,z.nl,z.nc⟩
theorem dZ{v:T}{b:BK}:b∈v.keys↔(b.node=v.aq/\b.name∈v.names/\b.sort=(if v.aK then .own else .cat))\/(b.node=v.aq/\v.bM=some b.name/\b.sort=.self):=by
 constructor
 ·intro h;rcases bX.mp h with h|h
  ·exact Ad (bn.mp h) fun y g e=>Z (ap e) (.inl ⟨rfl,g,rfl⟩)
  ·exact Ad (hM.mp (tj.mp h)) fun y e i=>Z (ap i) (.inr ⟨rfl,e,rfl⟩)
 ·obtain⟨s,a,y⟩:=b;rintro(⟨c,d,f⟩|⟨c,d,f⟩)
  ·exact cq _ (bn.mpr ⟨y,d,by exact Z (ap c) (Z (ap f) rfl)⟩)
  ·exact cS _ (Option.mem_toList.mpr (Option.map_eq_some_iff.mpr ⟨y,d,by exact Z (ap c) (Z (ap f) rfl)⟩))
theorem K3{v:T}(a:v.aK=true)(h:y∈v.names):(⟨.own,v.aq,y⟩:BK)∈v.keys:=dZ.mpr (.inl ⟨rfl,h,(if_pos a).symm⟩)
theorem EJ{v:T}(h:v.bM=some y):(⟨.self,v.aq,y⟩:BK)∈v.keys:=dZ.mpr (.inr ⟨rfl,h,rfl⟩)
theorem Pd{v:T}(a:v.aK=false)(h:y∈v.names):(⟨.cat,v.aq,y⟩:BK)∈v.keys:=dZ.mpr (.inl ⟨rfl,h,(if_neg (by refine Z a ?_;exact ax)).symm⟩)
theorem Mw{v:T}(f:v.aK=true){P:BK->Prop}(g:∀y∈v.names,P ⟨.own,v.aq,y⟩)(h:∀y,v.bM=some y->P ⟨.self,v.aq,y⟩):∀b∈v.keys,P b:=fun b i=>by
 obtain⟨s,a,y⟩:=b;rcases dZ.mp i with⟨d,e,c⟩|⟨d,e,c⟩
 ·rw[if_pos f]at c;exact Z (show s=.own from c) (Z (show a=v.aq from d) (g y e))
 ·exact Z (show s=.self from c) (Z (show a=v.aq from d) (h y e))
theorem RX{h:List T}{c:String}{P:BK->Prop}(d:P ⟨.cat,a,c⟩):∀x∈(T.tr a b c h).keys,P x:=fun x e=>by
 exact Z (al.mp (e)) d
noncomputable def Us(v:V):Addr:=V.casesOn v 0 0 (fun z=>0) (fun z=>0) (fun z=>0) (fun a=>a) (fun z=>0) (fun z=>0)
noncomputable def tK(a:String->Addr)(c:Addr)(b:BK):Addr:=BS.casesOn b.sort (a b.name) c (a b.name)
theorem cW.get{a:V}(s:cW k H I o a)(e:o=Option.some y):a=.ref (Us a)/\H (Us a)=Option.none/\I (Us a)=Option.some (.inst k.B (Ok y "self")):=by
 cases s with
 |none=>exact gU e|some c p h b=>refine Z (ap (ag e)) ?_;exact⟨rfl,h,b⟩
theorem cW.sS{a:V}(s:cW k H I o a)(e:o=Option.none):a=.none:=by
 cases s with
 |none=>rfl|some b p h c=>exact jd e
theorem Xs{z:String}{b:Addr}(e:H a=some (.inst k.B (Ok y "own")))(c:H b=some (.inst k.B (Ok z "self"))):a≠b:=fun w=>by
 rw[w]at e;have:=congrFun (O2 e c) .sort;exact absurd (V.str.inj this) (dd rfl)
theorem mq.zero(z:D.Zero)(b:BK):mq H D b (Ok b.name b.sort.str):=⟨rfl,rfl,by refine Z (z.cap ..) ?_;rfl,by refine Z (z.aQ ..) ?_;rfl⟩
theorem St.oK(r:k.N≠k.S)(s:k.N≠k.B)(t:k.N≠k.C)(h:St k H0 H L D R)(z:D.Zero)(AH:Base k.N H0 H){v:T}(d:v.aK=true)(H':vs=[]\/vs∈R)(b:∀w Y,w::Y∈R->w.aq≠v.aq){ad:At->V}(aj:H v.aq=some (.inst k.N ad))
  {A W:Addr} {sv:V} {l:At->Addr} {o:String->Addr} (xs:Jp k H I x v (JI L vs) f l A W o sv) :
  ∃i D',St k H0 (I.set v.aq (.inst k.N (upd ad .scope (.ref x)))) i D' (R++[v::vs])/\D'.Zero/\i.sc v.aq=x/\(∀a,a≠v.aq->i.sc a=L.sc a)/\(∀j,D'.lst v.aq j=Dh v j)/\(∀a j,a≠v.aq->D'.lst a j=D.lst a j/\i.ls a j=L.ls a j)/\(∀j∈aY,H (i.ls v.aq j)=none):=by
 have E:∀u K,vs=u::K->u.aq≠v.aq:=fun u K e=>H'.elim (fun z=>absurd (e.symm.trans z) (dP _ _)) fun m=>b _ _ (e▸m);have Ab:∀y∈v.names,∀z,v.bM=some z->o y≠Us sv:=fun y c z e=>Xs (xs.bnd.at' y c).2 (xs.self.get e).2.2;refine⟨_,_,h.add r s t AH (.inl d) H' b xs.ext aj (nb:=tK o (Us sv)) (nls:=l) (ndc:=A) xs.fx (Mw d (fun y c=>(xs.bnd.at' y c).1) fun y e=>(xs.self.get e).2.1)
  (Mw d (fun y c=>Mw d (fun z F e=>congrArg _ (xs.bnd.inj y c z F e)) fun z G e=>absurd e (Ab y c z G))
   fun y P=>Mw d (fun z F e=>absurd e.symm (Ab z F y P)) fun z G X=>congrArg _ (ag (P.symm.trans G)))
  (fun X j g=>(xs.lst j g).2.1) (fun X=>xs.ue) (fun X=>⟨f,xs.at',xs.v.node,by refine Z (HZ E) ?_;exact xs.v.parent,xs.v.bO,xs.v.sort,xs.v.strict,xs.args,xs.own.trans (congrArg V.ref (if_pos rfl).symm),?_,xs.nl.trans (congrArg (fun n:Nat=>V.int n) (z.nl _).symm),xs.nc.trans (congrArg (fun n:Nat=>V.int n) (z.nc _).symm),fun j g=>(xs.lst j g).1.trans (congrArg V.ref (if_pos rfl).symm)⟩) (fun q=>by rw[d]at q;exact bU q.symm)
  (Mw d (fun y c=>⟨_,(xs.bnd.at' y c).2,mq.zero z ⟨.own,v.aq,y⟩⟩) fun y e=>⟨_,(xs.self.get e).2.2,mq.zero z ⟨.self,v.aq,y⟩⟩) (fun X j g=>(xs.lst j g).2.2) (fun X=>xs.dct),z.add v,if_pos rfl,fun a p=>if_neg p,fun j=>if_pos rfl,fun a j p=>⟨if_neg p,if_neg p⟩,fun j g=>?_⟩
 ·cases Q:v.bM with
  |none=>exact xs.sO.trans (xs.self.sS Q)|some y=>exact xs.sO.trans ((xs.self.get Q).1.trans (congrArg V.ref (if_pos rfl).symm))
 ·exact Z (show(Ez L v x (tK o (Us sv)) l A).ls v.aq j=l j from if_pos rfl) ((xs.lst j g).2.1)
theorem St.qj(m:k.N≠k.S)(n:k.N≠k.B)(o:k.N≠k.C)(h:St k H0 H L D R)(z:D.Zero)(t:Base k.N H0 H){hh:List T}{g:String}(q:vs∈R)(d:∀w Y,w::Y∈R->w.aq≠a){r:At->V}(A:H a=some (.inst k.N r))
  {s:Addr} (xs:W6 k H I x a g (JI L vs) f s) :
  ∃i D',St k H0 (I.set a (.inst k.N (upd r .scope (.ref x)))) i D' (R++[.tr a b g hh::vs])/\D'.Zero/\i.sc a=x/\(∀c,c≠a->i.sc c=L.sc c)/\(∀c j,c≠a->D'.lst c j=D.lst c j/\i.ls c j=L.ls c j):=
 ⟨_,_,h.add m n o t (v:=.tr a b g hh) (.inr rfl) (.inr q) d xs.ext A (x:=x) (nb:=fun X=>s) (nls:=fun X=>0) (ndc:=0) xs.fx (fun X X=>xs.fc) (RX (P:=fun E=>∀p∈_,_->E=p) (RX fun X=>rfl)) bU bU bU (fun X=>⟨f,xs.at',xs.node,by refine Z (HZ (v:=.tr a b g hh) fun u G e=>d _ _ (e▸q)) ?_;exact xs.parent,xs.sort,fun y F=>by
   refine Z (al.mp (F)) ?_;exact⟨xs.name,xs.cU.trans (congrArg V.ref (if_pos rfl).symm)⟩⟩) (RX ⟨_,xs.cb,mq.zero z ⟨.cat,a,g⟩⟩) bU bU,z.add _,if_pos rfl,fun a l=>if_neg l,fun a j l=>⟨if_neg l,if_neg l⟩⟩
def DT(v:T)(x:String):Option BK:=if x∈v.names then some ⟨if v.aK then .own else .cat,v.aq,x⟩else if v.bM=some x then some ⟨.self,v.aq,x⟩else none
theorem B8{v:T}{x:String}(h:x∈v.names):DT v x=some ⟨if v.aK then .own else .cat,v.aq,x⟩:=if_pos h
theorem Cz{v:T}{x:String}(h:x∉v.names)(e:v.bM=some x):DT v x=some ⟨.self,v.aq,x⟩:=(if_neg h).trans (if_pos e)
theorem Bp{v:T}{x:String}(h:x∉v.names)(e:v.bM≠some x):DT v x=none:=(if_neg h).trans (if_neg e)
noncomputable def Ak:List T->String->Option BK×List Addr
 |[],_=>(none,[])
 |v::vs,x=>if x∈v.names then(some ⟨if v.aK then .own else .cat,v.aq,x⟩,[])else if v.bM=some x then(some ⟨.self,v.aq,x⟩,[])else((Ak vs x).1,if v.aK then v.aq::(Ak vs x).2 else(Ak vs x).2)
noncomputable def oZ(L:Loc):Option BK->V
 |none=>.none
 |some b=>.ref (L.bd b)
def Ba(R:List (List T)):Prop:=∀v,[v]∈R->v.aK=true
theorem Kc(v:T)(vs:List T)(x:String):Ak (v::vs) x=if x∈v.names then(some ⟨if v.aK then .own else .cat,v.aq,x⟩,[])else if v.bM=some x then(some ⟨.self,v.aq,x⟩,[])else((Ak vs x).1,if v.aK then v.aq::(Ak vs x).2 else(Ak vs x).2):=rfl
theorem Bx{v:T}{x:String}{b:BK}(e:DT v x=some b):Ak (v::vs) x=(some b,[]):=by
 refine Z (Kc ..) ?_;by_cases h:x∈v.names
 ·rw[B8 h]at e;exact Z (if_pos h) (Z e rfl)
 ·refine Z (if_neg h) ?_;by_cases a:v.bM=some x
  ·rw[Cz h a]at e;exact Z (if_pos a) (Z e rfl)
  ·rw[Bp h a]at e;exact gU e
theorem B4{v:T}{x:String}(e:DT v x=none):Ak (v::vs) x=((Ak vs x).1,if v.aK then v.aq::(Ak vs x).2 else(Ak vs x).2):=by
 refine Z (Kc ..) ?_;by_cases h:x∈v.names
 ·rw[B8 h]at e;exact jd e
 ·refine Z (if_neg h) ?_;by_cases a:v.bM=some x
  ·rw[Cz h a]at e;exact jd e
  ·exact Z (if_neg a) rfl
theorem Gl{v:T}(h:v.aK=true):gY (v::vs)=v.aq:=if_pos h
theorem Jr{v:T}(h:v.aK=false):gY (v::vs)=gY vs:=if_neg (by refine Z h ?_;exact ax)
theorem Hy(c:Code X G k)(h:St k H0 H L D R)(j:Ba R)(n:Nat):∀(v:T) (vs:List T),v::vs∈R->(v::vs).length<=n ->
  ∃f,aO X H (aZ L (v::vs)) (ae "function") f/\∀Q:V->U->Prop,Q (.ref (L.sc (gY (v::vs)))) H->aG X (d+n) H f [aZ L (v::vs)] Q:=by
 induction n with
 |zero=>exact fun v vs y i=>absurd i (tm _)
 |succ n l=>
  intro v vs m i;cases b:v.aK with
  |true=>
   refine Ad (h.fn v vs m b) fun f e y=>Ad c.iD fun o a xs=>⟨_,aO.inst (c.cx.cls _ c.jb) xs e,fun Q q=>(Z (ap a) ?_)⟩
   rw[Gl b]at q;exact c.fP.call rfl (A9 (Aa rfl rfl) q)
  |false=>
   refine Ad (h.ca v vs m b) fun f e z=>Ad c.iU fun o a xs=>⟨_,aO.inst (c.cx.cls _ c.mz) xs e,fun Q q=>(Z (ap a) ?_)⟩
   cases vs with
   |nil=>rw[j v m]at b;exact bU b.symm
   |cons u p=>
    refine Ad (l u p (h.pure.lY _ _ _ m) (i4 i)) fun g r s=>?_;rw[Jr b]at q;exact c.cZ.call rfl (Bh (Am (Aa rfl rfl) (c.fC e z.parent rfl rfl) _ ⟨g,r,A4 _ (s Q q).calls⟩))
theorem Tg{D:Addr}{a:Nat}{x:String}{v:V}(e:H D=some (.dict es a))(l:es.lookup x=some v):Bv cm H .In (.str x) (.ref D)=some true:=by refine Z (S9 e) (Z l ?_);rfl
theorem TD{D:Addr}{a:Nat}{x:String}(e:H D=some (.dict es a))(l:es.lookup x=none):Bv cm H .In (.str x) (.ref D)=some false:=by refine Z (S9 e) (Z l ?_);rfl
theorem Mb{x:String}(h:x=y):Bv cm H .Eq (.str x) (.str y)=some true:=congrArg some (decide_eq_true h)
theorem Mp{x:String}(h:x≠y):Bv cm H .Eq (.str x) (.str y)=some false:=congrArg some (decide_eq_false h)
theorem PO{v:T}(h:v.kE=true):∃y,v.names=[y]/\v.bM=none:=by
 cases v with
 |tr a b y c=>exact⟨y,rfl,rfl⟩|_=>exact bU h
theorem T1(c:Code X G k)(h:St k H0 H L D R){v:T}{x:String}(m:v::vs∈R):
  ∃f,aO X H (aZ L (v::vs)) (ae "binding") f/\∀Q:V->U->Prop,Q (oZ L (DT v x)) H->aG X (d+1) H f [aZ L (v::vs),.str x] Q:=by
 cases j:v.aK with
 |true=>
  refine Ad (h.fn v vs m j) fun f e z=>Ad c.jj fun u b xs=>AA (h.dc v vs m j) fun H' r=>⟨_,aO.inst (c.cx.cls _ c.jb) xs e,fun Q q=>(Z (ap b) ?_)⟩
  have l:Pv (O 0) H [aZ L (v::vs),.str x] (.ref (L.sc v.aq)):=Aa rfl rfl;have s:=Am l (c.fS e z.own rfl rfl);refine c.gD.call rfl ?_;by_cases i:x∈v.names
  ·rw[B8 i,j]at q;exact EU (aB (Aa rfl rfl) s (Tg r (Cy i))) (NM (Fm s (Aa rfl rfl) (.dict r (Cy i))) q)
  ·refine Bs (aB (Aa rfl rfl) s (TD r (GB i))) ?_;cases n:v.bM with
   |none=>
    rw[Bp i (by refine Z n ?_;exact gU)]at q;exact Bs (A0 (aB (Am l (c.fS e (z.self.trans (by exact Z n rfl)) rfl rfl)) Af rfl)) (A9 Af q)
   |some y=>
    have p:=Am l (c.fS e (z.self.trans (by exact Z n rfl)) rfl rfl);refine Ad (h.bd v vs m _ (EJ n)) fun g A B=>?_;have o:=Am p (c.fB A B.name rfl rfl);by_cases a:y=x
    ·rw[Cz i (by exact Z n (Z a rfl)),<-a]at q;exact EU (bH (aB p Af rfl) (DQ (aB o (Aa rfl rfl) (Mb a)))) (NM p q)
    ·rw[Bp i (by refine Z n ?_;exact fun w=>a (ag w))]at q;exact Bs (bH (aB p Af rfl) (A0 (aB o (Aa rfl rfl) (Mp a)))) (A9 Af q)
 |false=>
  refine Ad (h.ca v vs m j) fun f e z=>Ad c.jm fun u b xs=>⟨_,aO.inst (c.cx.cls _ c.mz) xs e,fun Q q=>(Z (ap b) (Ad (PO ((h.pure.knd v vs m).resolve_left (by refine Z j ?_;exact ax))) fun y t C=>?_))⟩
  refine aV (z.name y (by refine Z t ?_;exact .head _)) fun E F=>?_;have l:Pv (O 0) H [aZ L (v::vs),.str x] (.ref (L.sc v.aq)):=Aa rfl rfl;have o:=Am l (c.fC e E rfl rfl);refine c.dq.call rfl ?_;by_cases a:x=y
  ·rw[B8 (by refine Z t (Z a ?_);exact .head _),j,a]at q;exact A9 (Mo (aB (Aa rfl rfl) o (Mb a)) (Am l (c.fC e F rfl rfl))) q
  ·rw[Bp (by refine Z t ?_;exact fun w=>a (al.mp w)) (by refine Z C ?_;exact gU)]at q;exact A9 (MK (aB (Aa rfl rfl) o (Mp a)) Af) q
inductive UW(H:U)(L:Loc)(R:List (List T))(RR:Option BK×List Addr)(x:String)(r:Addr)(n:Nat)(aaa:U)(mm:List V):Prop where
 |mk:∀Y ps y,(mm=[JI L Y,.str x,.ref r,y,.aa,.aa])->(n=Y.length)->((Y=[]\/Y∈R))->(aD H aaa)->(aaa r=some (.list (ps.map fun a=>.ref (L.sc a))))->(ps++(Ak Y x).2=RR.2)->((Ak Y x).1=RR.1)->(ps.length+Y.length<=1000)->UW H L R RR x r n aaa mm
theorem RS(h:iu H0 L R){w:T}{Y:List T}(m:w::Y∈R):Y=[]\/Y∈R:=by
 cases Y with
 |nil=>exact .inl rfl|cons u a=>exact .inr (h.lY _ _ _ m)
theorem ju{Y:List T}:jO (JI L Y)=false/\mO (JI L Y)=false:=by cases Y<;>exact⟨rfl,rfl⟩
theorem Dy(c:Code X G k)(h:St k H0 H L D R){v:T}{x:String}{Q:V->U->Prop}(m:v::vs∈R)(hl:(v::vs).length<=1000)
  (q:∀I p r,aD H I->H r=none->I p=some (.tup [oZ L (Ak (v::vs) x).1,.ref r])->I r=some (.list ((Ak (v::vs) x).2.map fun a=>.ref (L.sc a)))->Q (.ref p) I):aG X (d+2) H (G "look_up") [aZ L (v::vs),.str x] Q:=by
 refine c.j9.call rfl (AL (AX A4 (bq _) fun r hr=>Tx (UW H L R (Ak (v::vs) x) x r) (v::vs).length ⟨v::vs,[],_,rfl,rfl,.inr m,aD.set hr,U.ak ..,rfl,rfl,by refine Z kQ (Z (df ..) ?_);exact hl⟩ ?_));rintro n aaa mm ⟨Y,ps,y,rfl,hn,hm,hE,hp,e1,e2,hpl⟩;have out:∀(t:Addr) (a:V),aaa t=none->a=oZ L (Ak (v::vs) x).1->ps=(Ak (v::vs) x).2->Q (.ref t) (aaa.set t (.tup [a,.ref r])):=fun t a ht ea ep=>
  q _ t r (hE.trans (aD.set ht)) hr (Z (U.ak ..) (Z ea rfl)) (ep▸Ah ht hp)
 cases Y with
 |nil=>
  rw[show Ak [] x=(none,[])from rfl]at e1 e2;exact .stop (aB (Aa rfl rfl) Af rfl) (Bh (bV (AD Af (Aa rfl rfl)) (dd rfl:2<=aT) fun t ht=>out t .none ht (by refine Z (ap e2) ?_;rfl) (Z (ap e1) (Z (aS ..) rfl))))
 |cons w Y=>
  have hm:w::Y∈R:=hm.resolve_left (dP _ _);have h1:=h.ext hE;refine Ad (T1 c h1 hm) fun fb hfb hqb=>.go (aB (Aa rfl rfl) Af rfl) (AL (Bz (Aa rfl rfl) hfb (AG (Aa rfl rfl)) (hqb _ ?_) (ai _)));cases hb:DT w x with
  |some b=>
   rw[Bx hb]at e1 e2;exact EU (aB (Aa rfl rfl) Af rfl) (Vv (bV (AD (Aa rfl rfl) (Aa rfl rfl)) (dd rfl:2<=aT) fun t ht=>out t _ ht (by refine Z (ap e2) ?_;rfl) (Z (ap e1) (Z (aS ..) rfl))))
  |none=>
   rw[B4 hb]at e1 e2;refine Bs (aB (Aa rfl rfl) Af rfl) ?_;have hl2:ps.length<=1000:=ab (bp _ _) hpl;have hlt:Y.length<n:=Z hn (eK _);cases hf:w.aK with
   |true=>
    rw[hf]at e1;refine Ad (h1.fn w Y hm hf) fun f e z=>EU (AJ (W1 c (Aa rfl rfl) e)) (NE (Aa rfl rfl) hp (sz (Z (ac ..) (ab hl2 (dd rfl)))) (Aa rfl rfl) (SS (Am (Aa rfl rfl) (c.fS (AM e hp rfl) z.parent ju.1 ju.2)) ?_));refine cJ hlt ⟨Y,ps++[w.aq],_,rfl,rfl,RS h.pure hm,hE.fH hr,?_,?_,e2,?_⟩
    ·refine Z (U.ak ..) (Z bP ?_);rfl
    ·exact Z (ci ..) e1
    ·exact Z ba (Z (dn ..) (Z (ds [w.aq].length ..) hpl))
   |false=>
    rw[hf]at e1;exact Ad (h1.ca w Y hm hf) fun f e z=>Bs (AJ (Vj c (Aa rfl rfl) e)) (SS (Am (Aa rfl rfl) (c.fC e z.parent ju.1 ju.2)) (cJ hlt ⟨Y,ps,_,rfl,rfl,RS h.pure hm,hE,hp,e1,e2,ab (br (ip _) _) hpl⟩))
def bw{α β:Type}(r:α->β->Prop):List α->List β->Prop
 |[],[]=>True
 |a::c,b::bs=>r a b/\bw r c bs
 |_,_=>False
variable{α β:Type}{r r':α->β->Prop}
theorem bw.ind{P:List α->List β->Prop}{c:List α}{bs:List β}(h:bw r c bs)(d:P [] [])(e:∀a b c bs,r a b->bw r c bs->P c bs->P (a::c) (b::bs)):P c bs:=by
 induction c generalizing bs with
 |nil=>cases bs with
  |nil=>exact d|cons b bs=>exact h.elim
 |cons a c f=>cases bs with
  |nil=>exact h.elim|cons b bs=>exact e a b c bs h.1 h.2 (f h.2)
theorem bw.length{a:List α}{bs:List β}(h:bw r a bs):a.length=bs.length:=
 h.ind (P:=fun a bs=>a.length=bs.length) rfl fun z z z z z z b=>congrArg Nat.succ b
theorem bw.app{c a:List α}{bs b:List β}(h:bw r c bs)(d:bw r a b):bw r (c++a) (bs++b):=
 h.ind (P:=fun c bs=>bw r (c++a) (bs++b)) d fun z z z z q z e=>⟨q,e⟩
theorem bw.rev{a:List α}{bs:List β}(h:bw r a bs):bw r a.reverse bs.reverse:=
 h.ind (P:=fun a bs=>bw r a.reverse bs.reverse) trivial fun z z z z q z b=>by refine Z i8 (Z i8 ?_);exact b.app ⟨q,trivial⟩
theorem bw.mono{c:List α}{bs:List β}(h:bw r c bs):(∀a b,b∈bs->r a b->r' a b)->bw r' c bs:=
 h.ind (P:=fun c bs=>(∀a b,b∈bs->r a b->r' a b)->bw r' c bs) (fun z=>trivial) fun z z z z q z d k=>⟨k _ _ (.head _) q,d fun a b m=>k a b (.tail _ m)⟩
theorem bw.mF{a:List α}(h:bw r a []):a=[]:=gg.mp h.length
theorem bw.j8{c:List α}{b:β}{bs:List β}(h:bw r c (b::bs)):∃a d,c=a::d/\r a b/\bw r d bs:=by
 cases c with
 |nil=>exact h.elim|cons a c=>exact⟨a,c,rfl,h.1,h.2⟩
theorem bw.get{c:List α}{bs:List β}(h:bw r c bs):∀{i:Nat} {a:α},c[i]?=some a->∃b,bs[i]?=some b/\r a b:=
 h.ind (P:=fun c bs=>∀{i:Nat} {a:α},c[i]?=some a->∃b,bs[i]?=some b/\r a b) gU fun x y z z q z d {i a} e=>by
  cases i with
  |zero=>exact⟨y,rfl,ag e▸q⟩|succ i=>exact d e
def jE(H:U)(L:Loc)(v:V)(u:List T×String):Prop:=∃p,v=.ref p/\H p=some (.tup [aZ L u.1,.str u.2])
def jT(H:U)(L:Loc)(v:V)(u:T×List T):Prop:=∃p,v=.ref p/\H p=some (.tup [rf u.1,aZ L u.2])
def W2(a:Addr)(c:List T):Bool:=gc c false fun v c=>gc c false fun u us=>v.aK&&gY (u::us)==a
def ZI(a:Addr)(c:List T):Bool:=gc c false fun v b=>!v.aK&&gY b==a
def Dj(R:List (List T))(a:Addr):List (List T):=R.filter (W2 a)
def CV(R:List (List T))(a:Addr):List (List T):=R.filter (ZI a)
def Er(L:Loc)(R:List (List T))(v:T)(j:At):List V:=if j=.aL then(Dj R v.aq).map (aZ L)else if j=.aN then(CV R v.aq).map (aZ L)else Dh v j
def Ko(L:Loc)(D:cD)(R:List (List T)):Prop:=∀v a,v::a∈R->v.aK=true->∀j∈aY,D.lst v.aq j=Er L R v j
structure RN(k:fW)(H0 H:U)(L:Loc)(D:cD)(R:List (List T))(uL wL:Addr)(us:List (List T×String))(uV:List V)(wl:List (T×List T))(wV:List V):Prop where
 st:St k H0 H L D R
 zero:D.Zero
 rooted:Ba R
 base:Base k.N H0 H
 lst:Ko L D R
 hu:H uL=some (.list uV)
 au:bw (jE H L) uV us
 hw:H wL=some (.list wV.reverse)
 aw:bw (jT H L) wV wl
 oR:∀p∈wl,p.2∈R/\Rep k.N H0 p.1
 mD:∀u∈us,u.1∈R
 fu:H0 uL=none
 fw:H0 wL=none
 pG:uL≠wL
 lM:∀v vs,v::vs∈R->v.aK=true->∀j∈aY,L.ls v.aq j≠uL/\L.ls v.aq j≠wL
theorem jE.keep{v:V}{u:List T×String}(h:jE H L v u)(k:∀a M,H a=some (.tup M)->I a=some (.tup M)):jE I L v u:=by refine Ad h fun p e b=>?_;exact⟨p,e,k _ _ b⟩
theorem jT.keep{v:V}{u:T×List T}(h:jT H L v u)(k:∀a M,H a=some (.tup M)->I a=some (.tup M)):jT I L v u:=by refine Ad h fun p e b=>?_;exact⟨p,e,k _ _ b⟩
variable{uL wL:Addr}{us:List (List T×String)}{uV:List V}{wl:List (T×List T)}{wV:List V}
theorem RN.ext(h:RN k H0 H L D R uL wL us uV wl wV)(e:aD H I):RN k H0 I L D R uL wL us uV wl wV:=
 ⟨h.st.ext e,h.zero,h.rooted,h.base.trans e.base,h.lst,e _ _ h.hu,h.au.mono fun a b y z=>z.keep fun a c z=>e _ _ z,e _ _ h.hw,h.aw.mono fun a b y z=>z.keep fun a c z=>e _ _ z,h.oR,h.mD,h.fu,h.fw,h.pG,h.lM⟩
theorem LG{p:α->Bool}{a:α}{P:Prop}[Decidable P](h:p a=true↔P):[a].filter p=if P then[a]else[]:=by
 by_cases q:P
 ·refine Z (if_pos q) (Z (iE (h.mpr q)) ?_);rfl
 ·refine Z (if_neg q) (Z (iF fun w=>q (h.mp w)) ?_);rfl
theorem Un(R:List (List T))(t u:T)(us:List T)(a:Addr):Dj (R++[t::u::us]) a=Dj R a++if t.aK=true/\gY (u::us)=a then[t::u::us]else[]:=by
 unfold Dj;exact Z (lx ..) (Z (LG (a:=t::u::us) (P:=t.aK=true/\gY (u::us)=a) ((be _ _).to_iff.trans (and_congr_right' beq_iff_eq))) rfl)
theorem Ud(R:List (List T))(t u:T)(us:List T)(a:Addr):CV (R++[t::u::us]) a=CV R a++if t.aK=false/\gY (u::us)=a then[t::u::us]else[]:=by
 unfold CV;exact Z (lx ..) (Z (LG (a:=t::u::us) (P:=t.aK=false/\gY (u::us)=a) ((be _ _).to_iff.trans (and_congr (lT _).to_iff beq_iff_eq))) rfl)
theorem RN.pK(h:RN k H0 H L D R uL wL us uV wl wV){c:List (T×List T)}{wV':List V}(a:bw (jT H L) wV' c)(m:∀p∈c,p.2∈R/\Rep k.N H0 p.1):RN k H0 (H.set wL (.list wV'.reverse)) L D R uL wL us uV c wV':=
 have d:=fun a g w=>AM w h.hw rfl
 ⟨h.st.lD h.hw fun v e m i j f=>(h.lM v e m i j f).2,h.zero,h.rooted,h.base.fY h.fw,h.lst,by refine Z (U.aC _ _ h.pG) ?_;exact h.hu,h.au.mono fun a b y z=>z.keep d,U.ak ..,a.mono fun a b y z=>z.keep d,m,h.mD,h.fu,h.fw,h.pG,h.lM⟩
theorem RN.rO(h:RN k H0 H L D R uL wL us uV wl wV){c:List (List T×String)}{d:List V}(a:bw (jE H L) d c)(m:∀p∈c,p.1∈R):RN k H0 (H.set uL (.list d)) L D R uL wL c d wl wV:=
 have e:=fun a l w=>AM w h.hu rfl
 ⟨h.st.lD h.hu fun v f m i j g=>(h.lM v f m i j g).1,h.zero,h.rooted,h.base.fY h.fu,h.lst,U.ak ..,a.mono fun a b y z=>z.keep e,by refine Z (U.aC _ _ h.pG.symm) ?_;exact h.hw,h.aw.mono fun a b y z=>z.keep e,h.oR,m,h.fu,h.fw,h.pG,h.lM⟩
theorem KP(h:iu H0 L R)(b:Ba R){v:T}:v::vs∈R->∃w Y,w::Y∈R/\w.aK=true/\w.aq=gY (v::vs):=by
 induction vs generalizing v with
 |nil=>exact fun m=>⟨v,[],m,b v m,(Gl (b v m)).symm⟩
 |cons u us c=>
  intro m;cases a:v.aK with
  |true=>exact⟨v,_,m,a,(Gl a).symm⟩|false=>refine Z (Jr a) ?_;exact c (h.lY _ _ _ m)
theorem UX(h:iu H0 L R)(d:Ba R)(b:∀w Y,w::Y∈R->w.aq≠a):Dj R a=[]:=by
 refine mM.mpr fun c e=>?_;cases c with
 |nil=>exact ax|cons v c=>cases c with
  |nil=>exact ax|cons u us=>
   exact Ay (KP h d (h.lY _ _ _ e)) fun w Y f i g=>fun z=>b w Y f (g.trans (i5 ((be _ _).mp z).2))
theorem UA(h:iu H0 L R)(d:Ba R)(b:∀w Y,w::Y∈R->w.aq≠a):CV R a=[]:=by
 refine mM.mpr fun c e=>?_;cases c with
 |nil=>exact ax|cons v c=>cases c with
  |nil=>exact fun z=>absurd (d v e) (Z ((lT _).mp ((be _ _).mp z).1) ax)
  |cons u us=>
   exact Ay (KP h d (h.lY _ _ _ e)) fun w Y f i g=>fun z=>b w Y f (g.trans (i5 ((be _ _).mp z).2))
theorem nT{a:Loc}{b:List (List T)}{v:T}(c:(Dj b v.aq).map (aZ a)=(Dj R v.aq).map (aZ L))(d:(CV b v.aq).map (aZ a)=(CV R v.aq).map (aZ L)):Er a b v j=Er L R v j:=by
 unfold Er;exact Z c (Z d rfl)
theorem Ss{a:Loc}{v:T}(h:∀x∈R,aZ a x=aZ L x):Er a R v j=Er L R v j:=
 nT (fz fun x m=>h x (fy.mp m).1) (fz fun x m=>h x (fy.mp m).1)
theorem Me{v:T}(a:j≠.aL)(b:j≠.aN):Er L R v j=Dh v j:=(if_neg a).trans (if_neg b)
theorem U1(h:iu H0 L R)(b:Ba R){e:Loc}{v:T}(a:∀w Y,w::Y∈R->w.aq≠v.aq):Er e R v j=Dh v j:=by
 by_cases c:j=.aL
 ·refine Z c ?_;show(Dj R v.aq).map _=_;refine Z (UX h b a) ?_;rfl
 ·by_cases d:j=.aN
  ·refine Z d ?_;show(CV R v.aq).map _=_;refine Z (UA h b a) ?_;rfl
  ·exact Me c d
theorem Sr{P Q:Prop}[Decidable P][Decidable Q]{a b:α}(h:P↔Q):(if P then a else b)=if Q then a else b:=by
 by_cases q:Q
 ·exact Z (if_pos q) (Z (if_pos (h.mpr q)) rfl)
 ·exact Z (if_neg q) (Z (if_neg fun w=>q (h.mp w)) rfl)
theorem Ka{f:α->β}{P:Prop}[Decidable P]{a:α}:(if P then[a]else[]).map f=if P then[f a]else[]:=by
 by_cases h:P
 ·refine Z (if_pos h) (Z (if_pos h) ?_);rfl
 ·refine Z (if_neg h) (Z (if_neg h) ?_);rfl
theorem Up{d:Loc}{u:T}{us:List T}{v:T}{j0:At}(a:j0=if t.aK then .aL else .aN):Er d (R++[t::u::us]) v j=Er d R v j++if gY (u::us)=v.aq/\j=j0 then[aZ d (t::u::us)]else[]:=by
 have n:At.aL≠.aN:=dd rfl;by_cases b:j=.aL
 ·refine Z b ?_;show(Dj _ v.aq).map _=(Dj R v.aq).map _++_;exact Z (Un ..) (Z bP (Z Ka (congrArg _ (Sr ⟨fun q=>⟨q.2,by refine Z a (Z q.1 ?_);rfl⟩,fun q=>⟨Bool.of_not_eq_false fun w=>by rw[w]at a;exact n (q.2.trans a),q.1⟩⟩))))
 ·by_cases c:j=.aN
  ·refine Z c ?_;show(CV _ v.aq).map _=(CV R v.aq).map _++_;exact Z (Ud ..) (Z bP (Z Ka (congrArg _ (Sr ⟨fun q=>⟨q.2,by refine Z a (Z q.1 ?_);rfl⟩,fun q=>⟨Bool.of_not_eq_true fun w=>by rw[w]at a;exact n (q.2.trans a).symm,q.1⟩⟩))))
  ·refine Z (Me b c) (Z (Me b c) ?_);rewrite[if_neg];exact Z (aS ..) rfl;intro q;cases e:t.aK with
   |true=>rw[e]at a;exact b (q.2.trans a)
   |false=>rw[e]at a;exact c (q.2.trans a)
variable{c:List T}
theorem RN.added(h:RN k H0 H L D R uL wL us uV wl wV)(ws:c∈R)(d:∀w Y,w::Y∈R->w.aq≠t.aq){ad:U}{g:Loc}(st:St k H0 ad g D' (R++[t::c]))(zero:D'.Zero)
  (Q:∀a,a≠t.aq->g.sc a=L.sc a) (S:t.aK=true->∀j,D'.lst t.aq j=Dh t j) (E:∀a j,a≠t.aq->D'.lst a j=D.lst a j/\g.ls a j=L.ls a j) (hB:Base k.N H ad) (F:∀a o,(∀f,o≠.inst k.N f)->H a=some o->ad a=some o)
  (B:t.aK=true->∀j∈aY,H (g.ls t.aq j)=none) {j0:At} (r:j0=if t.aK then .aL else .aN) :
  ∃w Y,w::Y∈R/\w.aK=true/\w.aq=gY c/\ad (g.ls w.aq j0)=some (.list (D'.lst w.aq j0))/\(D'.lst w.aq j0).length<=R.length /\
   RN k H0 (ad.set (g.ls w.aq j0) (.list (D'.lst w.aq j0++[aZ g (t::c)]))) g (D'.cA w.aq j0 (D'.lst w.aq j0++[aZ g (t::c)])) (R++[t::c]) uL wL us uV wl wV:=by
 have K:j0=.aL\/j0=.aN:=by
  cases i:t.aK with
  |true=>rw[i]at r;exact .inl r
  |false=>rw[i]at r;exact .inr r
 have s:j0∈aY:=K.elim (fun e=>by refine Z e ?_;decide) fun e=>by refine Z e ?_;decide
 cases c with
 |nil=>exact absurd ws h.st.pure.ne|cons u G=>
 refine Ay (KP h.st.pure h.rooted ws) fun w Y Ab H' AH=>?_;have aj:=d w Y Ab;have l:w::Y∈R++[t::u::G]:=cq _ Ab;have xs:=st.ls w Y l H' j0 s;have A:∀x∈R,aZ g x=aZ L x:=fun x m=>by
  cases x with
  |nil=>exact absurd m h.st.pure.ne|cons v n=>exact congrArg V.ref (Q _ (d v n m))
 have nl:∀{a o},H a=some (.list o)->∀f,bI.list o≠.inst k.N f:=fun N f=>Bu rfl;have rL:∀a W,H a=some (.tup W)->(ad.set (g.ls w.aq j0) (.list (D'.lst w.aq j0++[aZ g (t::u::G)]))) a=some (.tup W):=fun a W z=>AM (F _ _ (fun f=>Bu rfl) z) xs rfl;have y:∀v n,v::n∈R++[t::u::G]->v.aK=true->∀j∈aY,g.ls v.aq j≠uL/\g.ls v.aq j≠wL:=
  bz (fun v n m i j s=>by refine Z ((E _ j (d v n m)).2) ?_;exact h.lM v n m i j s) fun i j s=>⟨(An (B i j s) h.hu).symm,(An (B i j s) h.hw).symm⟩
 have C:D'.lst w.aq j0=Er g R w j0:=by exact Z ((E _ j0 aj).1) (Z (h.lst w Y Ab H' j0 s) (Z (Ss A) rfl))
 refine⟨w,Y,Ab,H',AH,xs,?_,⟨st.cA l H' s,zero.cA _ _ _,fun v m=>(bX.mp m).elim (h.rooted v) fun m=>absurd (bS (al.mp m)).2.symm (dP _ _),(h.base.trans hB).fY (st.pure.pg w Y l H' j0 s),?_,?_,?_,?_,?_,fun p m=>⟨cq _ (h.oR p m).1,(h.oR p m).2⟩,fun u m=>cq _ (h.mD u m),h.fu,h.fw,h.pG,y⟩⟩
 ·refine Z C ?_;rcases K with e|e
  ·exact Z e (ab (ct (ac ..)) (i7 ..))
  ·exact Z e (ab (ct (ac ..)) (i7 ..))
 ·intro v n m i j X;refine Z (Up r) ?_;by_cases q:v.aq=w.aq/\j=j0
  ·exact Z (if_pos ⟨AH.symm.trans q.1.symm,q.2⟩) ((if_pos q).trans (Z q.2 (Z ((bS (st.pure.jf v n w Y m l q.1)).1) (Z C rfl))))
  ·exact Z (if_neg (fun z=>q ⟨z.1.symm.trans AH.symm,z.2⟩)) (Z (aS ..) ((if_neg q).trans (bz (P:=fun v N=>v.aK=true->D'.lst v.aq j=Er g R v j) (fun v n m i=>by exact Z ((E _ j (d v n m)).1) (Z (h.lst v n m i j X) (Z (Ss A) rfl))) (fun i=>(S i j).trans (U1 h.st.pure h.rooted d).symm) v n m i)))
 ·exact Z (U.aC _ _ (y w Y l H' j0 s).1.symm) (F _ _ (fun f=>Bu rfl) h.hu)
 ·exact h.au.mono fun a b m z=>z.elim fun p z=>⟨p,z.1,by refine Z (A _ (h.mD _ m)) ?_;exact rL _ _ z.2⟩
 ·exact Z (U.aC _ _ (y w Y l H' j0 s).2.symm) (F _ _ (fun f=>Bu rfl) h.hw)
 ·exact h.aw.mono fun a b m z=>z.elim fun p z=>⟨p,z.1,by refine Z (A _ (h.oR _ m).1) ?_;exact rL _ _ z.2⟩
theorem bw.lN{Y:List V}(h:bw (jT H L) Y wl)(e:aD H I):bw (jT I L) Y wl:=h.mono fun a b y z=>z.keep fun a c z=>e _ _ z
inductive UQ(H:U)(L:Loc)(c ts:List T)(j:Nat)(acc:List V)(aaa:U)(m:List V):Prop where
 |mk (b:V):aD H aaa->m=[.aa,b,aZ L c]->bw (jT aaa L) acc ((ts.take j).map fun t=>(t,c))->UQ H L c ts j acc aaa m
theorem MG{l:Addr}{ts:List T}{Q:List V->U->Prop}{jz:List V}(hc:jz=[.aa,.aa,aZ L c])(e:H l=some (.list (cI ts)))
  (q:∀I Y,aD H I->bw (jT I L) Y (ts.map fun t=>(t,c))->Q Y I) :
  cN (AB 1) (fun H=>H l=some (.list (cI ts))) AI (Bg (Ac (O 1) (Ac (O 2) Ag))) Q 0 [] (cI ts) H jz:=by
 refine Z hc (NN (UQ H L c ts) ?_ ?_ ⟨_,aD.refl H,rfl,trivial⟩)
 ·rintro j x acc aaa m hx ⟨b,hE,rfl,ha⟩;refine Az (KY hx) fun t ht zq2 z=>?_;subst zq2;exact⟨hE _ _ e,_,rfl,fun KE KN hE' hN=>S0 (lL (bV (AD (Aa rfl rfl) (Aa rfl rfl)) (dd rfl:2<=aT) fun p hp=>hE' _ _ ⟨_,hE.trans (aD.set hp),rfl,(Z (AK ht) (Z bP ((ha.lN (aD.set hp)).app ⟨⟨p,rfl,U.ak ..⟩,trivial⟩)))⟩))⟩
 ·rintro acc aaa m ⟨b,hE,_,ha⟩;rw[ac,dp]at ha;exact⟨hE _ _ e,q aaa acc hE ha⟩
def FE(wl:List (T×List T)):Nat:=(wl.map fun p=>p.1.size).sum
def Ix(wl:List (T×List T)):List (List T×String):=wl.flatMap fun p=>He p.2 p.1
def O6(wl:List (T×List T)):List (List T):=wl.flatMap fun p=>mR p.2 p.1
theorem Da(ts c:List T)(wl:List (T×List T)):FE ((ts.map fun t=>(t,c))++wl)=AS ts+FE wl:=by
 induction ts with
 |nil=>exact(df _).symm|cons t ts a=>exact(congrArg (t.size+·) a).trans (dn ..).symm
theorem DK(ts c:List T)(wl:List (T×List T)):Ix ((ts.map fun t=>(t,c))++wl)=aU c ts++Ix wl:=by
 induction ts with
 |nil=>rfl|cons t ts a=>exact(congrArg (He c t++·) a).trans (ci ..).symm
theorem E9(ts c:List T)(wl:List (T×List T)):O6 ((ts.map fun t=>(t,c))++wl)=gr c ts++O6 wl:=by
 induction ts with
 |nil=>rfl|cons t ts a=>exact(congrArg (mR c t++·) a).trans (ci ..).symm
theorem Vn(wl:List (T×List T)):wl.length<=FE wl:=by
 induction wl with
 |nil=>exact ai _|cons p wl a=>exact ab (ct (ds _ _)) (cc (ab (dd rfl) p.1.jB) a)
noncomputable def T.ou(t:T)(c:List T):List (List T×String):=T.casesOn t (fun z x=>[(c,x)]) (fun z=>[]) (fun z x z=>[(c,x)]) (fun z z=>[]) (fun z z z z z z=>[]) (fun z z z z=>[]) fun z z=>[]
theorem Ac9(t:T):decide (t.kind="Try")=t.kE:=by cases t<;>rfl
theorem Q8(h:t.cL=false)(b:t.kE=false):He c t=t.ou c++aU c t.inner:=by
 cases t with
 |func=>exact bU h.symm|tr=>exact bU b.symm|var a x i=>cases i<;>rfl
 |expr a t=>exact(aS _).symm|_=>rfl
theorem Ub(h:t.cL=false)(b:t.kE=false):mR c t=gr c t.inner:=by
 cases t with
 |func=>exact bU h.symm|tr=>exact bU b.symm|var a x i=>cases i<;>rfl
 |expr a t=>exact(aS _).symm|_=>rfl
inductive J0(k:fW)(H0:U)(pr:T)(uL wL:Addr)(pv:V)(US:List (List T×String))(ES:List (List T))(n:Nat)(H:U)(m:List V):Prop where
 |mk (L:Loc) (D:cD) (R:List (List T)) (us:List (List T×String)) (uV:List V) (wl:List (T×List T)) (wV:List V) (b2 b4 b5 b6:V):m=[pv,.ref uL,b2,.ref wL,b4,b5,b6,.aa,.aa,.aa,.aa,.aa]->RN k H0 H L D R uL wL us uV wl wV->([pr]∈R/\aZ L [pr]=pv)->us++Ix wl=US->R++O6 wl=ES->n=FE wl->n<=10000->J0 k H0 pr uL wL pv US ES n H m
structure Read(k:fW)(H0 H:U)(L:Loc)(D:cD)(ES:List (List T))(uL:Addr)(uV:List V)(US:List (List T×String)):Prop where
 st:St k H0 H L D ES
 zero:D.Zero
 rooted:Ba ES
 base:Base k.N H0 H
 lst:Ko L D ES
 hu:H uL=some (.list uV)
 au:bw (jE H L) uV US
 mD:∀u∈US,u.1∈ES
 lM:∀v vs,v::vs∈ES->v.aK=true->∀j∈aY,L.ls v.aq j≠uL
end
section
variable{k:fW}{H0 H I:U}{L:Loc}{D:cD}{R:List (List T)}{uL wL:Addr}{us:List (List T×String)}{uV:List V}{wl:List (T×List T)}{wV:List V}{X:Cx}{d:Nat}{G:String->V}
structure DZ(ES:List (List T))(US:List (List T×String)):Prop where
 nd:(ES.map oX).Nodup
 nn:∀v vs,v::vs∈ES->v.names.length<1000/\vs.length<=20
 es:ES.length<=10000
 us:US.length<=10000
theorem DP(h:RN k H0 H L D R uL wL us uV wl wV){ts ch:List T}{m:List V}{i:Nat}{C:WE}{Q:bu->U->List V->Prop}(j:ch∈R)(A:∀t∈ts,Rep k.N H0 t)(x:AS ts+FE wl<=10000)(B:m.getD i .aa=aZ L ch)(E:m.getD 3 .aa=.ref wL)
  (F:∀R:V->U->Prop,(∀a r,aD H a->H r=none->a r=some (.list (cI ts))->R (.ref r) a)->C H m R)
  (q:∀I l,RN k H0 I L D R uL wL us uV ((ts.map fun t=>(t,ch))++wl) l->Q .next I m) :
  wExpr (AC X d "extend" (O 3) (Ac (Bm (Au (Ct C)) (AB 1) AI (Bg (Ac (O 1) (Ac (O 2) Ag))) [none,none,some i]) Ag)) H m Q:=by
 have n:ts.length<=10000:=ab (A3 ts) (ab (bp _ _) x);have s:wV.length<=10000:=Z h.aw.length (ab (Vn wl) (ab (cy _ _) x));refine Wp (Aa E rfl) h.hw (EN (KV (F _ fun a r G H' ad=>⟨r,_,rfl,ad,sz (Z (ac ..) (ab n (dd rfl))),fun K xs=>⟨K,_,rfl,U.ak ..,sz (Z da (Z (ac ..) (ab n (dd rfl)))),?_⟩⟩)));refine Z (Fn ..) (MG (L:=L) (c:=ch) (by refine Z (ap B) ?_;rfl) (U.ak ..) fun b f u y Ab z=>?_);have g:=h.ext (((G.trans (aD.set xs)).trans u).trans (aD.set (o:=.list f) z));have v:bw (jT (b.set Ab (.list f)) L) f.reverse (ts.map fun t=>(t,ch)):=by
  have:=(y.lN (aD.set (o:=.list f) z)).rev;rwa [me,jv]at this
 refine dI g.hw (U.ak ..) (sz (Z da (Z y.length (Z (ac ..) (Z da (ab (cc s n) (dd rfl))))))) (q _ (f.reverse++wV) ?_);have:=g.pK (v.app g.aw) fun p w=>(bX.mp w).elim (fun w=>by refine Ad (bn.mp w) fun t P e=>?_;refine Z (ap e) ?_;exact⟨j,A t P⟩) (g.oR p);rwa [kX,jv]at this
theorem Md{a:T}{pv j l m o:V}{f:List (List T×String)}{ES:List (List T)}{n:Nat}{Q:bu->U->List V->Prop}(h:RN k H0 H L D R uL wL us uV wl wV)(b:[a]∈R/\aZ L [a]=pv)(c:us++Ix wl=f)(d:R++O6 wl=ES)(g:FE wl<n)(e:n<=10000)
  (p:∀i I m',i<n->J0 k H0 a uL wL pv f ES i I m'->Q .next I m'):Q .next H [pv,.ref uL,j,.ref wL,l,m,o,.aa,.aa,.aa,.aa,.aa]:=
 p _ _ _ g ⟨L,D,R,us,uV,wl,wV,_,_,_,_,rfl,h,b,c,d,rfl,ab (dk g) e⟩
variable{pr:T}{pv b5 b6:V}{US:List (List T×String)}{ES:List (List T)}{n:Nat}{t:T}{ch:List T}{rest:List (T×List T)}{restV:List V}{Q:bu->U->List V->Prop}
theorem V5(c:Code X G k)(h:RN k H0 H L D R uL wL us uV rest restV)(m:Rep k.N H0 t)(f:ch∈R)(g:[pr]∈R/\aZ L [pr]=pv)(e:t.cL=false)(o:t.kE=false)
  (i:us++(aU ch t.inner++Ix rest)=US) (j:R++(mR ch t++O6 rest)=ES) (p:t.size+FE rest<=n) (a:n<=10000)
  (x:∀r I m',r<n->J0 k H0 pr uL wL pv US ES r I m'->Q .next I m'):JR X (d+30) G H [pv,.ref uL,rf t,.ref wL,aZ L ch,b5,b6,.aa,.aa,.aa,.aa,.aa] Q:=by
 have b:=m.base h.base;have l:=Mz t;have s:=bv (j1 l _) p;have v:=S7 t;have w:=Ac9 t;rw[e]at v;rw[o]at w;refine iB (b.test c (Aa rfl rfl) v) (iB (A0 (b.test c (Aa rfl rfl) w)) (DP h f (fun u y=>(m.inner e).1.mem y) (ab (dk s) a) rfl rfl
  (fun R q=>Ao (AG (Aa rfl rfl)) (Hn c b e (ab (ab (bp _ _) p) (ab a (dd rfl))) q) (dd rfl)) fun I z A=>?_))
 exact Md A g (Z (DK ..) i) (Z (E9 ..) (Z (ap (Ub e o)) j)) (Z (Da ..) s) a x
theorem J1(c:Code X G k)(h:St k H0 H L D R)(f:Ba R){u:T}{us:List T}(m:u::us∈R)(g:(u::us).length<=21){A:WE}{m':List V}(a:Pv A H m' (aZ L (u::us))):Pv (AC X (d+30) "function" A Ag) H m' (.ref (L.sc (gY (u::us)))):=Ad (Hy c h f 21 u us m g) fun i b e=>SM a b e (dd rfl)
theorem Yd(c:Code X G k)(S:DZ ES US)(h:RN k H0 H L D R uL wL us uV rest restV)(hR:Rep k.N H0 t)(hch:ch∈R)(hpr:[pr]∈R/\aZ L [pr]=pv)(hf:t.cL=true)
  (hus:us++(He ch t++Ix rest)=US) (hev:R++(mR ch t++O6 rest)=ES) (hn:t.size+FE rest<=n) (hn':n<=10000)
  (hK:∀n' I m',n'<n->J0 k H0 pr uL wL pv US ES n' I m'->Q .next I m'):JR X (d+30) G H [pv,.ref uL,rf t,.ref wL,aZ L ch,b5,b6,.aa,.aa,.aa,.aa,.aa] Q:=by
 have hRH:=hR.base h.base;refine Ad hRH.at fun fN ef ek=>?_;obtain⟨hfn,hevt,hust,hlt⟩:t.aK=true/\mR ch t=(t::ch)::gr (t::ch) t.body/\He ch t=aU (t::ch) t.body/\AS t.body<t.size:=by
  cases t with
  |func a nm ps b s dd=>exact⟨rfl,rfl,rfl,m1 (bv (by decide) (bp 10 _))⟩|_=>exact bU hf
 obtain⟨⟨bl0,_⟩,hRb,hzb,_⟩:=hR.dC hfn;rw[hevt,qf]at hev;rw[hust]at hus;have hnew:∀w Y,w::Y∈R->w.aq≠t.aq:=fun w Y m e=>by
  have nd:=S.nd;rw[<-hev,bP,eM]at nd;exact nd.2.2 _ (bn.mpr ⟨_,m,rfl⟩) (oX (t::ch)) (.head _) e
 have hnn:=S.nn t ch (Z (ap hev) (cS _ (.head _)));cases ch with
 |nil=>exact absurd hch h.st.pure.ne|cons u us'=>
 have hz:AS t.body+FE rest<n:=bv (j1 hlt _) hn;have k1:=S7 t;rw[hf]at k1;refine Dt (hRH.test c (Aa rfl rfl) k1) (AL (Ao (e₂:=30) (AD (Aa rfl rfl) (Aa rfl rfl)) (SR (d:=d) (pv:=JI L (u::us')) c hfn hRH rfl (ab (ab (bp _ _) hn) hn') hnn.1 fun aaa x f ls dc bl bd sb xs=>N0 (Aa (v:=.ref x) rfl rfl) (Aa rfl rfl) (xs.ext _ _ ef) c.nA (AN (h.st.oK c.pF c.pC c.qH h.zero h.base hfn (.inr hch) hnew ef xs) fun L' D' st2 z2 g1 zr=>Bt zr fun g2 g3 g4 g5=>?_)) (dd rfl)));have hxa:x≠t.aq:=(An xs.fx ef).symm;have hB2:Base k.N H (aaa.set t.aq (.inst k.N (upd fN .scope (.ref x)))):=xs.ext.base.kZ (xs.ext _ _ ef);have hkp:∀a o,(∀f,o≠.inst k.N f)->H a=some o->(aaa.set t.aq (.inst k.N (upd fN .scope (.ref x)))) a=some o:=fun a o n e=>BC (xs.ext _ _ e) (xs.ext _ _ ef) (n fN);have hx2:(aaa.set t.aq (.inst k.N (upd fN .scope (.ref x)))) x=some (.inst k.S f):=by refine Z (U.aC _ _ hxa) ?_;exact xs.at'
 have hbl0:=xs.bo.base h.base hR hfn;refine Ay (h.added hch hnew st2 z2 g2 (fun z=>g3) g4 hB2 hkp (fun z=>g5) (j0:=.aL) (by refine Z hfn ?_;rfl)) fun w Y w1 w2 zr=>Bt zr fun w3 w4 w5 RN2=>?_;generalize(aaa.set t.aq (.inst k.N (upd fN .scope (.ref x))))=aab at *;have hR30:R.length<=10000:=ab (Jh hev) S.es;refine Ad (st2.fn w Y (cq _ w1) w2) fun fw ew zw=>?_;have hsu:aZ L' (u::us')=aZ L (u::us'):=congrArg V.ref (g2 _ (hnew u us' hch));have hfu:=J1 (d:=d) (A:=O 4) (m':=[pv,.ref uL,rf t,.ref wL,aZ L (u::us'),.ref x,b6,.aa,.aa,.aa,.aa,.aa]) c st2 RN2.rooted (cq _ hch) (dS hnn.2) (Aa (by refine Z hsu ?_;rfl) rfl);rw[<-w3]at hfu;refine NE (Am hfu (c.fS ew (zw.lst .aL (dd rfl)) rfl rfl)) w4 (sz (ab w5 (ab hR30 (dd rfl)))) (Aa (v:=.ref x) rfl rfl) (Z (show V.ref x=aZ L' (t::u::us')from congrArg V.ref g1.symm) ?_);have hx3:=AM (x:=.list (D'.lst w.aq .aL++[aZ L' (t::u::us')])) hx2 w4 rfl;refine DP RN2 (cS _ (.head _)) (fun y hy=>hRb.mem hy) (ab (dk hz) hn') rfl rfl (fun R q=>Ao (AG (Am (Aa (congrArg V.ref g1) rfl) (c.fS hx3 xs.v.nG rfl rfl)))
  (DL c (RN2.base.list hbl0) (hRb.base RN2.base) (ab (A3 _) (ab (bp _ _) (ab (dk hz) (ab hn' (dd rfl))))) q) (dd rfl)) fun I wV' h'=>?_
 exact Md h' ⟨cq _ hpr.1,by refine Z (ap hpr.2) ?_;exact congrArg V.ref (g2 _ (hnew pr [] hpr.1))⟩ (Z (DK ..) hus) (Z (E9 ..) (Z (ci ..) hev)) (Z (Da ..) hz) hn' hK
variable{a:Addr}
theorem zm(c:Code X G k)(S:DZ ES US){b hh:List T}{r:String}(et:t=.tr a b r hh)(h:RN k H0 H L D R uL wL us uV rest restV)(hR:Rep k.N H0 t)(p:ch∈R)(C:[pr]∈R/\aZ L [pr]=pv)
  (hus:us++(He ch t++Ix rest)=US) (hev:R++(mR ch t++O6 rest)=ES) (hn:t.size+FE rest<=n) (B:n<=10000)
  (hK:∀n' I m',n'<n->J0 k H0 pr uL wL pv US ES n' I m'->Q .next I m'):JR X (d+30) G H [pv,.ref uL,rf t,.ref wL,aZ L ch,b5,b6,.aa,.aa,.aa,.aa,.aa] Q:=by
 subst et;show JR X (d+30) G H [pv,.ref uL,.ref a,.ref wL,aZ L ch,b5,b6,.aa,.aa,.aa,.aa,.aa] Q;have hRH:=hR.base h.base;have E:=hRH;refine DA hR fun bl hl Ab hbl hhl rb rh=>?_;have n1:=h.base.bF Ab;refine AQ n1 fun ws N rL N=>?_;have hz:AS b+(AS hh+FE rest)<n:=by rw[Sb]at hn;exact zu hn
 have i:R++((T.tr a b r hh::ch)::(gr ch b++(gr (T.tr a b r hh::ch) hh++O6 rest)))=ES:=by refine Z (ap hev) ?_;exact congrArg (fun l=>R++(_::l)) (ci ..).symm
 have P:us++(aU ch b++(aU (T.tr a b r hh::ch) hh++Ix rest))=US:=by refine Z (ap hus) ?_;exact congrArg (us++·) (ci ..).symm
 have j:∀w Y,w::Y∈R->w.aq≠a:=fun w Y m e=>by
  have nd:=S.nd;rw[<-i,bP,eM]at nd;exact nd.2.2 _ (bn.mpr ⟨_,m,rfl⟩) (oX (T.tr a b r hh::ch)) (.head _) e
 have hnn:=S.nn (T.tr a b r hh) ch (Z (ap i) (cS _ (.head _)));cases ch with
 |nil=>exact absurd p h.st.pure.ne|cons u g=>
 refine iB (E.test c (Aa rfl rfl) rfl) (Dt (bH (E.test c (Aa rfl rfl) rfl) (DQ (aB ((h.base.bF Ab).part c (Aa rfl rfl) rfl rfl) Af rfl)))
  (AL (Ao (e₂:=30) (AD (Aa rfl rfl) (Aa rfl rfl)) (Oh (d:=d) (pv:=JI L (u::g)) c E rfl fun s x f cb xs=>?_) (dd rfl))))
 refine N0 (Aa (v:=.ref x) rfl rfl) (Aa rfl rfl) (xs.ext _ _ rL) c.nA (DA (h.st.qj c.pF c.pC c.qH h.zero h.base (b:=b) (hh:=hh) p j rL xs) fun L' D' F z2 g1 g2 g4=>?_);have hB2:Base k.N H (s.set a (.inst k.N (upd ws .scope (.ref x)))):=xs.ext.base.kZ (xs.ext _ _ rL);have hkp:∀y o,(∀f,o≠.inst k.N f)->H y=some o->(s.set a (.inst k.N (upd ws .scope (.ref x)))) y=some o:=fun y o n e=>BC (xs.ext _ _ e) (xs.ext _ _ rL) (n ws);refine Ay (h.added (t:=.tr a b r hh) p j F z2 g2 bU g4 hB2 hkp bU (j0:=.aN) rfl) fun w Y w1 w2 zr=>Bt zr fun w3 w4 w5 H'=>?_;generalize(s.set a (.inst k.N (upd ws .scope (.ref x))))=aab at *;have AH:R.length<=10000:=ab (Jh i) S.es;refine Ad (F.fn w Y (cq _ w1) w2) fun fw ew zw=>?_;have ad:aZ L' (u::g)=aZ L (u::g):=congrArg V.ref (g2 _ (j u g p));have aj:=J1 (d:=d) (A:=O 4) (m':=[pv,.ref uL,.ref a,.ref wL,aZ L (u::g),b5,.ref x,.aa,.aa,.aa,.aa,.aa]) c F H'.rooted (cq _ p) (dS hnn.2) (Aa (by refine Z ad ?_;rfl) rfl);rw[<-w3]at aj;refine NE (Am aj (c.fS ew (zw.lst .aN (dd rfl)) rfl rfl)) w4 (sz (ab w5 (ab AH (dd rfl)))) (Aa (v:=.ref x) rfl rfl) (Z (show V.ref x=aZ L' (T.tr a b r hh::u::g)from congrArg V.ref g1.symm) ?_);have W:u::g∈R++[T.tr a b r hh::u::g]:=cq _ p;have hc2:T.tr a b r hh::u::g∈R++[T.tr a b r hh::u::g]:=cS _ (.head _);have K:AS hh+FE rest<=10000:=ab (cy _ _) (ab (dk hz) B);refine LK (DP H' (ts:=[]) (ch:=u::g) W (fun N z=>absurd z am) (Z (show AS []=0 from rfl) (Z (df ..) (ab (cy _ _) K))) (by refine Z ad ?_;rfl) rfl (fun R q=>Ao (e₁:=1) (AG ((H'.base.bF Ab).part c (Aa rfl rfl) rfl rfl)) (OK (d:=d) c q) (dd rfl))
  (Q:=fun N I m'=>az _ _ I m' Q) fun aaf wV3 h3=>?_)
 refine LK (DP h3 (ts:=hh) hc2 (fun y hy=>rh.mem hy) K rfl rfl (fun R q=>Ao (e₁:=1) (AG ((h3.base.bF Ab).part c (Aa rfl rfl) rfl rfl))
  (DL (d:=d) c (h3.base.list hhl) (rh.base h3.base) (ab (A3 _) (ab (bp _ _) (ab K (dd rfl)))) q) (dd rfl)) (Q:=fun N I m'=>wExpr _ I m' Q) fun aan wV4 h4=>?_)
 refine DP h4 (ts:=b) W (fun y hy=>rb.mem hy) (Z (Da ..) (ab (dk hz) B)) (by refine Z ad ?_;rfl) rfl (fun R q=>Ao (e₁:=1) (AG ((h4.base.bF Ab).part c (Aa rfl rfl) rfl rfl))
  (DL (d:=d) c (h4.base.list hbl) (rb.base h4.base) (ab (A3 _) (ab (bp _ _) (ab (dk hz) (ab B (dd rfl))))) q) (dd rfl)) fun I wV' h'=>?_
 exact Md h' ⟨cq _ C.1,by refine Z (ap C.2) ?_;exact congrArg V.ref (g2 _ (j pr [] C.1))⟩ (Z (DK ..) (Z (DK ..) P)) (Z (E9 ..) (Z (E9 ..) (Z (ci ..) i))) (Z (Da ..) (Z (Da ..) hz)) B hK
variable{x:String}
theorem RN.use(h:RN k H0 H L D R uL wL us uV rest restV)(a:ch∈R){p:Addr}{ys:List V}(d:H p=none)(e:aD (H.set p (.tup [aZ L ch,.str x])) I)(f:ys=uV++[.ref p]):RN k H0 (I.set uL (.list ys)) L D R uL wL (us++[(ch,x)]) ys rest restV:=by
 refine Z f ?_;have c:=(h.ext (aD.set d)).ext e;exact c.rO (c.au.app ⟨⟨p,rfl,e _ _ (U.ak ..)⟩,trivial⟩) fun u b=>(bX.mp b).elim (h.mD u) fun b=>Z (al.mp b) a
theorem RN.nil(h:RN k H0 H L D R uL wL us uV rest restV):RN k H0 H L D R uL wL (us++[]) uV rest restV:=by refine Z (aS ..) ?_;exact h
theorem RN.oO(h:RN k H0 H L D R uL wL (us++[]) uV rest restV):RN k H0 H L D R uL wL us uV rest restV:=by rw[aS]at h;exact h
theorem Aep(c:Code X G k)(h:RN k H0 H L D R uL wL us uV rest restV)(hR:Rep k.N H0 t)(hch:ch∈R)(hu:us.length<=10000)
  (q:∀I uV',RN k H0 I L D R uL wL (us++t.ou ch) uV' rest restV->JR X d G I [pv,.ref uL,rf t,.ref wL,aZ L ch,b5,b6,.aa,.aa,.aa,.aa,.aa] Q):Gd X d G H [pv,.ref uL,rf t,.ref wL,aZ L ch,b5,b6,.aa,.aa,.aa,.aa,.aa] Q:=by
 have hRH:=hR.base h.base;have hul:uV.length<=10000:=Z h.au.length hu;cases t with
 |name a x=>exact EU (hRH.test c (Aa rfl rfl) rfl) (O1 (Aa rfl rfl) h.hu (bV (AD (Aa rfl rfl) (bh.part hRH c (Aa rfl rfl) rfl rfl)) (dd rfl:2<=aT) fun p hp=>Bn (Ah hp h.hu) (sz (ab hul (dd rfl))) (q _ _ (h.use hch hp (aD.refl _) rfl))))|var a x i=>
  have hRV:=hRH;refine AN hRH fun l tp n h1 h2 z=>?_;exact Vd (hRV.test c (Aa rfl rfl) rfl) (EU (hRV.test c (Aa rfl rfl) rfl) (Ab1 (Aa rfl rfl) h.hu (Fg (n.part c (Aa rfl rfl) rfl rfl) h1 (dd rfl) ⟨h1,_,CB h2 rfl,S0 (lL (bV (AD (Aa rfl rfl) (Aa rfl rfl)) (dd rfl:2<=aT) fun p hp=>⟨Ah hp h1,fun p2 hp2=>
   dI (Ah hp2 (Ah hp h.hu)) (U.ak ..) (sz (cc (ab hul (dd rfl)) (ai 1))) (q _ _ (h.use hch hp (aD.set hp2) rfl))⟩))⟩)))
 |_=>exact Vd (hRH.test c (Aa rfl rfl) rfl) (Bs (hRH.test c (Aa rfl rfl) rfl) (q _ uV h.nil))
variable{c:List T}
theorem YQ(h:t.cL=true):t.ou c=[]:=by
 cases t with
 |func=>rfl|_=>exact bU h
theorem vR(h:t.kE=true):t.ou c=[]/\∃a b x hh,t=.tr a b x hh:=by
 cases t with
 |tr a b x hh=>exact⟨rfl,a,b,x,hh,rfl⟩|_=>exact bU h
theorem Ya(c:Code X G k)(S:DZ ES US){m:List V}(q:∀A D' uV,Read k H0 H A D' ES uL uV US->aZ A [pr]=pv->Q (.ret (.ref uL)) H m)(H':J0 k H0 pr uL wL pv US ES n H m):
  qI (Ap X .Gt (Ai X (d+30) (G "len") (Ac (O 3) Ag)) (Ae (.int 0))) (Gg X (d+30) G) (AT (O 1)) (J0 k H0 pr uL wL pv US ES) n H m Q:=by
 obtain⟨A,D',R,us,uV,C,rL,b2,b4,b5,b6,rfl,h,g,a,b,ad,i⟩:=H';cases C with
 |nil=>
  have B:=h.hw;rw[h.aw.mF]at B;rw[show Ix []=[]from rfl,aS]at a;rw[show O6 []=[]from rfl,aS]at b;rw[a,b]at h;exact .stop (E7 c (Aa rfl rfl) B) (A9 (Aa rfl rfl) (q A D' uV ⟨h.st,h.zero,h.rooted,h.base,h.lst,h.hu,h.au,h.mD,fun v N m Ab j P=>(h.lM v N m Ab j P).1⟩ g.2))
 |cons p C=>
  obtain⟨t,ch⟩:=p;obtain⟨w,D,AH,⟨aj,E,F⟩,s⟩:=h.aw.j8;have e:=h.hw;rw[AH,E,i8]at e;have u:D.reverse.length<=10000:=Z da (Z s.length (ab (Vn C) (ab (cy _ _) (ad▸i))));have f:=h.oR _ (.head _);refine .go (E8 c (Aa rfl rfl) e (sz (Z ba (cc (ab u (dd rfl)) (ai 1)))) (oQ _ (dP _ _))) ?_;refine Lg (Aa rfl rfl _ ⟨_,ZF e,A4 _ (NP e (qP (ab u (dd rfl))) ⟨aj,_,rfl,AM F e rfl,rfl,(Aep c (h.pK s fun p f=>h.oR p (.tail _ f)) f.2 f.1 (ab (Jh a) S.us) fun K W x=>?_)⟩)⟩);have o:=ct ad.symm;cases l:t.cL with
  |true=>rw[YQ l]at x;exact Yd c S x.oO f.2 f.1 g l a b o i fun L I xs y z=>cJ y z
  |false=>
   cases r:t.kE with
   |true=>
    refine WW (vR (c:=ch) r) fun B Y Y Y Y ws=>?_;rw[B]at x;exact zm c S ws x.oO f.2 f.1 g a b o i fun L I xs y z=>cJ y z
   |false=>
    exact V5 c x f.2 f.1 g l r (by refine Z (ap a) (Z (ci ..) (Z (ap (ci (T.ou t ch) ..)) (Z (ap (Q8 l r)) ?_)));rfl) b o i fun L I xs y z=>cJ y z
variable{f:At->V}
theorem O0(c:Code X G k){b:List T}(S:DZ ES US)(st:St k H0 H L D [[T.prog a b]])(zr:D.Zero)(w:Base k.N H0 H)(hl:Ko L D [[T.prog a b]])(hR:Rep k.N H0 (.prog a b)){Ab:Addr}
  (ef:H (L.sc a)=some (.inst k.S f)) (eb:f .body=.ref Ab) (C:H0 Ab=some (.list (cI b))) (P:AS b<=10000) (E:ES=[T.prog a b]::gr [T.prog a b] b) (F:US=aU [T.prog a b] b) {Q:V->U->Prop}
  (q:∀I A D' uL uV,Read k H0 I A D' ES uL uV US->aZ A [T.prog a b]=aZ L [T.prog a b]->Q (.ref uL) I):aG X (d+31) H (G "read_names") [aZ L [T.prog a b]] Q:=by
 refine Az hR fun Y Y Y x=>?_;have g:b.length<=10000:=ab (A3 b) P;refine c.iG.call rfl (AL (AX A4 (bq _) fun uL s=>?_));have h:aD H (H.set uL (.list [])):=aD.set s;refine AL (EN (KV (Ao (AG (Am (Aa rfl rfl) (c.fS (h _ _ ef) eb rfl rfl))) (DL c (h _ _ (w.list C)) (x.base (w.trans h.base)) (ab g (dd rfl)) fun R r ad hr0 hr=>
  ⟨r,_,rfl,hr,sz (Z (ac ..) (ab g (dd rfl))),fun r2 h2=>⟨r2,_,rfl,U.ak ..,sz (Z da (Z (ac ..) (ab g (dd rfl)))),?_⟩⟩) (dd rfl))))
 refine Z (Fn ..) (MG rfl (U.ak ..) fun aaf B K ha wL i=>?_);have l:aD (H.set uL (.list [])) aaf:=(ad.trans (aD.set h2)).trans K;have y:aD H (aaf.set wL (.list B)):=(h.trans l).trans (aD.set i);have z:H wL=none:=(h.trans l).none i;have xs:RN k H0 (aaf.set wL (.list B)) L D [[T.prog a b]] uL wL [] [] (b.map fun t=>(t,[T.prog a b])) B.reverse:=by
  refine⟨st.ext y,zr,fun v m=>?_,w.trans y.base,hl,Ah i (l _ _ (U.ak ..)),trivial,by exact Z (U.ak ..) (Z (jv ..) rfl),?_,fun p hp=>?_,fun u hu=>absurd hu am,w.none s,w.none z,An i (l _ _ (U.ak ..)),fun v AH m aj j W=>⟨An s (st.ls v AH m aj j W),An z (st.ls v AH m aj j W)⟩⟩
  ·refine Z ((bS (al.mp m)).1) ?_;rfl
  ·have:=(ha.lN (aD.set (o:=.list B) i)).rev;rwa [me,jv]at this
  ·exact Ad (bn.mp hp) fun t ht e=>Z (ap e) ⟨.head _,x.mem ht⟩
 have ws:=DK b [T.prog a b] [];have rL:=E9 b [T.prog a b] [];have e3:=Da b [T.prog a b] [];rw[aS]at ws rL e3;refine Tx (J0 k H0 (T.prog a b) uL wL (aZ L [T.prog a b]) US ES) (AS b) ⟨L,D,_,[],[],_,_,_,_,_,_,rfl,xs,⟨.head _,rfl⟩,by refine Z ws (Z F ?_);exact aS _,by refine Z rL (Z E ?_);exact congrArg (List.cons _) (aS _),e3.symm,P⟩ fun n I m' H'=>Ya c S (fun A D' uV r e=>q I A D' uL uV r e) H'
structure Ph(k:fW)(H0 H:U)(L:Loc)(D:cD)(ES:List (List T))(uL:Addr)(uV:List V)(US:List (List T×String)):Prop where
 st:St k H0 H L D ES
 rooted:Ba ES
 base:Base k.N H0 H
 hu:H uL=some (.list uV)
 au:bw (jE H L) uV US
 mD:∀u∈US,u.1∈ES
 lM:∀v vs,v::vs∈ES->v.aK=true->∀j∈aY,L.ls v.aq j≠uL
theorem Read.ph(h:Read k H0 H L D ES uL uV US):Ph k H0 H L D ES uL uV US:=⟨h.st,h.rooted,h.base,h.hu,h.au,h.mD,h.lM⟩
def Qq:List T->Bool
 |[]=>false
 |v::_=>v.aK
theorem Ph.ext(h:Ph k H0 H L D ES uL uV US)(e:aD H I):Ph k H0 I L D ES uL uV US:=
 ⟨h.st.ext e,h.rooted,h.base.trans e.base,e _ _ h.hu,h.au.mono fun a b y z=>z.keep fun a c z=>e _ _ z,h.mD,h.lM⟩
variable{v:T}{vs:List T}{M:List V}
theorem Ph.cA(h:Ph k H0 H L D ES uL uV US){j:At}(c:v::vs∈ES)(d:v.aK=true)(e:j∈aY):Ph k H0 (H.set (L.ls v.aq j) (.list M)) L (D.cA v.aq j M) ES uL uV US:=
 ⟨h.st.cA c d e,h.rooted,h.base.fY (h.st.pure.pg v vs c d j e),by refine Z (U.aC _ _ (h.lM v vs c d j e).symm) ?_;exact h.hu,h.au.mono fun a b y z=>z.keep fun a M z=>AM z (h.st.ls v vs c d j e) rfl,h.mD,h.lM⟩
variable{b:BK}{D':cD}
theorem Ph.setB(d:k.N≠k.B)(f:k.S≠k.B)(i:k.B≠k.C)(h:Ph k H0 H L D ES uL uV US){g':At->V}(j:v::vs∈ES)(l:b∈v.keys)(m:D'.lst=D.lst)(n:D'.nl=D.nl)(o:D'.nc=D.nc)
  (p:∀c,c≠b->D'.cap c=D.cap c/\D'.aQ c=D.aQ c) (q:mq H D' b g'):Ph k H0 (H.set (L.bd b) (.inst k.B g')) L D' ES uL uV US:=
 (h.st.bd v vs j b l).elim fun g e=>⟨h.st.setB d f i j l m n o p q,h.rooted,h.base.fY (h.st.pure.q8 v vs j b l),AM h.hu e.1 rfl,h.au.mono fun a b y z=>z.keep fun a r z=>AM z e.1 rfl,h.mD,h.lM⟩
theorem Ph.o8(c:k.N≠k.S)(d:k.S≠k.B)(f:k.S≠k.C)(h:Ph k H0 H L D ES uL uV US){j:At->V}(i:v::vs∈ES)(l:v.aK=true)(m:D'.lst=D.lst)(n:D'.cap=D.cap)(o:D'.aQ=D.aQ)
  (p:∀a,a≠v.aq->D'.nl a=D.nl a/\D'.nc a=D.nc a) (q:mQ L D' v vs j):Ph k H0 (H.set (L.sc v.aq) (.inst k.S j)) L D' ES uL uV US:=
 (h.st.fn v vs i l).elim fun g e=>⟨h.st.o8 c d f i l m n o p q,h.rooted,h.base.fY (h.st.pure.fsc v vs i),AM h.hu e.1 rfl,h.au.mono fun a b y z=>z.keep fun a r z=>AM z e.1 rfl,h.mD,h.lM⟩
def lC(H I:U):Prop:=∀a b,H a=some (.tup b)->I a=some (.tup b)
theorem lC.trans{H'':U}(h:lC H I)(c:lC I H''):lC H H'':=fun a b e=>c a b (h a b e)
theorem aD.tps(h:aD H I):lC H I:=fun a b e=>h _ _ e
theorem lC.set{z:Addr}{o o':bI}(e:H z=some o)(n:∀M,bI.tup M≠o):lC H (H.set z o'):=fun a M w=>BC w e (n M)
theorem Qo(h:iu H0 L ES)(b:Ba ES):v::vs∈ES->∃w Y,w::Y∈ES/\w.aK=true/\w.aq=gY (v::vs)/\(w::Y).length<=(v::vs).length:=by
 induction vs generalizing v with
 |nil=>exact fun m=>⟨v,[],m,b v m,(Gl (b v m)).symm,ai _⟩
 |cons u i c=>
  intro m;cases a:v.aK with
  |true=>exact⟨v,_,m,a,(Gl a).symm,ai _⟩|false=>
   exact Z (Jr a) (AN (c (h.lY _ _ _ m)) fun w Y d e f g=>⟨w,Y,d,e,f,dS g⟩)
theorem iQ :c∈Dj R a↔c∈R/\∃v u us,c=v::u::us/\v.aK=true/\gY (u::us)=a:=by
 refine List.mem_filter.trans (and_congr_right' ⟨fun h=>?_,?_⟩)
 ·cases c with
  |nil=>exact bU h|cons v c=>cases c with
   |nil=>exact bU h|cons u us=>exact⟨v,u,us,rfl,((be _ _).mp h).1,i5 ((be _ _).mp h).2⟩
 ·rintro⟨v,u,us,rfl,b,d⟩;exact(be _ _).mpr ⟨b,beq_iff_eq.mpr d⟩
structure nM(ES:List (List T))(pr:T)(fs Y:List (List T)):Prop where
 nd:(fs++Y).Nodup
 sub:∀c∈fs++Y,c∈ES/\Qq c=true
 root:[pr]∈fs++Y
 up:∀v u us,v::u::us∈fs++Y->∃w ws',w::ws'∈fs/\w.aq=gY (u::us)
 down:∀v u us,v::u::us∈ES->v.aK=true->(∃w ws',w::ws'∈fs/\w.aq=gY (u::us))->v::u::us∈fs++Y
variable{fs:List (List T)}
theorem nM.step{y:T}(h:iu H0 L ES)(H:Ba ES)(nd:ES.Nodup){Y:List (List T)}(i:nM ES y fs (Y++[v::vs])):nM ES y (fs++[v::vs]) (Y++(Dj ES v.aq).reverse):=by
 have r:v::vs∈fs++(Y++[v::vs]):=cS _ (cS _ (.head _));have s:v::vs∉fs:=fun m=>(eM.mp i.nd).2.2 _ m _ (cS _ (.head _)) rfl;have l:((fs++(Y++[v::vs]))++(Dj ES v.aq).reverse).Perm ((fs++[v::vs])++(Y++(Dj ES v.aq).reverse)):=by
  exact Z (ci ..) (Z (ci ..) (Z (ci ..) (rg fs (Z (ap (ci Y ..)) (Z (ap (ci [v::vs] ..)) (List.Perm.append_right _ sF))))))
 have d:∀c,c∈(fs++[v::vs])++(Y++(Dj ES v.aq).reverse)↔c∈fs++(Y++[v::vs])\/c∈Dj ES v.aq:=fun c=>l.mem_iff.symm.trans (List.mem_append.trans (or_congr_right List.mem_reverse));have f:∀c∈Dj ES v.aq,c∉fs++(Y++[v::vs]):=fun c n m=>by
  refine aV (iQ.mp n) fun X o=>Br o fun w u p e j q=>AQ (i.up _ _ _ (e▸m)) fun x H' t A=>?_;rw[h.jf _ _ _ _ (i.sub _ (cq _ t)).1 (i.sub _ r).1 (A.trans q)]at t;exact s t
 exact
 {nd:=(eM.mpr ⟨i.nd,(nd.sublist (k6 ..)).perm (List.reverse_perm _).symm,fun a B b C e=>f b (ky.mp C) (e▸B)⟩).perm l
  sub:=fun c n=>((d c).mp n).elim (i.sub c) fun n=>by refine aV (iQ.mp n) fun g o=>Br o fun w u p e j q=>?_;rw[e]at g ⊢;exact⟨g,j⟩
  root:=(d _).mpr (.inl i.root)
  up:=fun x u p m=>((d _).mp m).elim (fun m=>by refine AQ (i.up _ _ _ m) fun w k g j=>?_;exact⟨w,k,cq _ g,j⟩) fun m=>by
   exact aV (iQ.mp m) fun X o=>Br o fun w ad D e j q=>aV (bS (bS e).2) fun E F=>⟨v,vs,cS _ (.head _),by refine Z E (Z F ?_);exact q.symm⟩
  down:=fun x u p m z G=>by
   refine AQ G fun w k g j=>(d _).mpr ((bX.mp g).imp (fun g=>i.down _ _ _ m z ⟨w,k,g,j⟩) fun g=>?_);exact iQ.mpr ⟨m,x,u,p,rfl,z,by exact Z (ap j) (Z ((bS (al.mp g)).1) rfl)⟩}
theorem nM.full{e:T}(h:iu H0 L ES)(i:Ba ES)(j:∀v,[v]∈ES->v=e)(f:nM ES e fs [])(n:Nat):∀(c:List T),c.length<=n->c∈ES->Qq c=true->c∈fs:=by
 induction n with
 |zero=>exact fun c d b a=>by rw[gg.mp (tn.mp d)]at a;exact bU a
 |succ n k=>
  intro c d b a;cases c with
  |nil=>exact bU a|cons v c=>cases c with
   |nil=>refine Z (j v b) ?_;have:=f.root;rwa [aS]at this
   |cons u l=>
    refine AN (Qo h i (h.lY _ _ _ b)) fun w g m o p q=>?_;have:=f.down v u l b a ⟨w,g,k (w::g) (ab q (i4 d)) m o,p⟩;rwa [aS]at this
inductive VC(H:U)(L:Loc)(ES:List (List T))(pr:T)(r aai:Addr)(n:Nat)(aaa:U)(m:List V):Prop where
 |mk:∀(fs Y:List (List T)) (b:V),(m=[aZ L [pr],.ref r,.ref aai,b,.aa])->(aD H aaa)->(aaa r=some (.list (fs.map (aZ L))))->(aaa aai=some (.list (Y.map (aZ L))))->(nM ES pr fs Y)->(n=ES.length-fs.length)->VC H L ES pr r aai n aaa m
theorem nM.start{a:T}(b:[a]∈ES)(d:a.aK=true):nM ES a [] [[a]]:=
 ⟨cr.mpr ⟨am,d0⟩,fun c e=>by refine Z (al.mp e) ?_;exact⟨b,d⟩,.head _,fun v u f m=>absurd (bS (al.mp m)).2 (dP _ _),fun v u f m j g=>by refine AQ g fun w h i z=>?_;exact absurd i am⟩
theorem Oy(c:Code X G k)(st:St k H0 H L D ES)(hr:Ba ES)(hl:Ko L D ES)(nd:ES.Nodup)(hpr:[pr]∈ES)(hs:∀v,[v]∈ES->v=pr)(hz:ES.length<=10000){Q:V->U->Prop}
  (q:∀I r (fs:List (List T)),aD H I->H r=none->I r=some (.list (fs.map (aZ L)))->fs.Nodup->(∀c,c∈fs↔c∈ES/\Qq c=true)->Q (.ref r) I):aG X (d+1) H (G "all_scopes") [aZ L [pr]] Q:=by
 refine c.iV.call rfl (Fh (AX A4 (bq _) fun r hr0=>AX (AG (Aa rfl rfl)) (dd rfl:1<=aT) fun aai hr1 t ht=>aV (AZ hr1) fun hr10 hne=>?_));have zl:∀{M:List (List T)},M.length<=ES.length->(M.map (aZ L)).length<=10000:=fun h=>by refine Z (ac ..) ?_;exact ab h hz
 refine Tx (VC H L ES pr r aai) ES.length ⟨[],[[pr]],_,rfl,(aD.set hr0).trans ((aD.set hr1).trans (aD.set ht)),Ah ht (Ah hr1 (U.ak ..)),Ah ht (U.ak ..),nM.start hpr (hr pr hpr),rfl⟩ ?_;rintro n aaa m ⟨fs,Y,b,rfl,hE,hf,hw,hD,hn⟩;have hlen:(fs++Y).length<=ES.length:=hD.nd.length_le_of_subset fun c hc=>(hD.sub c hc).1;rw[ba]at hlen;rcases nh Y with e|⟨ws',x,e⟩
 ·rw[e]at hw hD;refine .stop (E7 c (Aa rfl rfl) hw) (A9 (Aa rfl rfl) (q aaa r fs hE hr0 hf ?_ fun c=>⟨fun m=>hD.sub c (cq _ m),fun m=>hD.full st.pure hr hs _ c (ai _) m.1 m.2⟩));have:=hD.nd;rwa [aS]at this
 ·rw[ny]at e;refine .go (E8 c (Aa rfl rfl) hw (sz (ab (zl (ab (cy _ _) hlen)) (dd rfl))) (Z e (Z bP (oQ _ (dP _ _))))) ?_;rw[e]at hw hD;rw[e,ba,h7]at hlen;have hx:=hD.sub x (cS _ (cS _ (.head _)));cases x with
  |nil=>exact bU hx.2|cons v vs=>
  rw[bP]at hw;have l1:ws'.length<=ES.length:=ab (dS (cy _ _)) hlen;have l2:fs.length<=ES.length:=ab (bp _ _) hlen;refine U2 (Aa rfl rfl) hw (qP (ab (zl l1) (dd rfl))) ?_;have hf1:(aaa.set aai (.list (ws'.map (aZ L)))) r=some (.list (fs.map (aZ L))):=by refine Z (U.aC _ _ hne.symm) ?_;exact hf
  refine NE (Aa rfl rfl) hf1 (sz (ab (zl l2) (dd rfl))) (Aa rfl rfl) ?_;have hE2:aD H ((aaa.set aai (.list (ws'.map (aZ L)))).set r (.list (fs.map (aZ L)++[aZ L (v::vs)]))):=(hE.fH hr10).fH hr0;have hw2:((aaa.set aai (.list (ws'.map (aZ L)))).set r (.list (fs.map (aZ L)++[aZ L (v::vs)]))) aai=some (.list (ws'.map (aZ L))):=by exact Z (U.aC _ _ hne) (Z (U.ak ..) rfl)
  have st2:=st.ext hE2;refine Ad (st2.fn v vs hx.1 hx.2) fun f ef z=>?_;have hlc:=st2.ls v vs hx.1 hx.2 .aL (dd rfl);rw[hl v vs hx.1 hx.2 .aL (dd rfl),show Er L ES v .aL=(Dj ES v.aq).map (aZ L)from rfl]at hlc;have l3:(Dj ES v.aq).length<=ES.length:=i7 ..;refine Wp (Aa rfl rfl) hw2 (vO (Am (Aa rfl rfl) (c.fS ef (z.lst .aL (dd rfl)) rfl rfl)) hlc (sz (ab (zl l3) (dd rfl))) fun c2 h2=>
   dI (Ah h2 hw2) (U.ak ..) (sz (Z da (ab (cc (zl l1) (zl l3)) (dd rfl)))) (cJ ?_ ⟨fs++[v::vs],ws'++(Dj ES v.aq).reverse,_,rfl,(hE2.trans (aD.set h2)).fH hr10,?_,?_,hD.step st.pure hr nd,rfl⟩))
  ·exact Z hn (Z ba (Nat.sub_lt_sub_left (bv (fR (bp _ _)) hlen) (eK _)))
  ·refine Z (U.aC _ _ hne.symm) (Z (Ah h2 (U.ak ..)) (Z bP ?_));rfl
  ·exact Z (U.ak ..) (Z bP (Z me rfl))
variable{y:String}
theorem ig{ps:List String}{ts:List T}:y∈A6 ps ts↔y∈ps\/y∈BA ts\/(Bd ps ts=true/\y="arguments")\/y∈aF ts:=by
 have e:y∈(if Bd ps ts then["arguments"]else[])↔Bd ps ts=true/\y="arguments":=by
  cases Bd ps ts with
  |true=>exact List.mem_singleton.trans ⟨fun h=>⟨rfl,h⟩,fun h=>h.2⟩|false=>exact⟨fun h=>absurd h am,fun h=>bU h.1⟩
 unfold A6;exact Z (propext fX) (Z (propext fX) (Z (propext fX) (Z (propext fX) (Z (propext e) (Z (propext or_assoc) (Z (propext or_assoc) (Z (propext or_assoc) ⟨fun h=>h.resolve_left am,.inr⟩)))))))
theorem Mk(h:y∈v.ps):y∈v.names:=by
 cases v with
 |func a c e b s d=>exact ig.mpr (.inl h)|_=>exact absurd h am
structure JX(D D':cD):Prop where
 lst:D'.lst=D.lst
 aQ:D'.aQ=D.aQ
 nl:D'.nl=D.nl
 nc:D'.nc=D.nc
theorem R0(e:DT v x=some b):b∈v.keys/\b.name=x:=by
 by_cases h:x∈v.names
 ·rw[B8 h]at e;exact Z (ap (ag e)) ⟨dZ.mpr (.inl ⟨rfl,h,rfl⟩),rfl⟩
 ·by_cases a:v.bM=some x
  ·rw[Cz h a]at e;exact Z (ap (ag e)) ⟨EJ a,rfl⟩
  ·rw[Bp h a]at e;exact gU e
theorem Hu(h:iu H0 L ES):(c=[]\/c∈ES)->(Ak c x).1=some b->∃v vs,v::vs∈ES/\b∈v.keys/\b.name=x:=by
 induction c with
 |nil=>exact fun z e=>gU e
 |cons v vs d=>
  intro m e;have m:=m.resolve_left (dP _ _);cases a:DT v x with
  |some i=>
   rw[Bx a]at e;exact aV (R0 a) fun f g=>Z (ap (ag e)) ⟨v,vs,m,f,g⟩
  |none=>rw[B4 a]at e;exact d (RS h m) e
theorem HH :(Ak c x).2.length<=c.length:=by
 induction c with
 |nil=>exact ai _|cons v d a=>
  cases b:DT v x with
  |some e=>refine Z (Bx b) ?_;exact bq _
  |none=>
   refine Z (B4 b) ?_;cases v.aK with
   |true=>exact cv a|false=>exact dS a
def mk1(US:List (List T×String))(b:BK):Prop:=∃u∈US,(Ak u.1 u.2).1=some b/\(Ak u.1 u.2).2≠[]
def mk2(a:List (List T))(b:BK):Prop:=∃v c,v::c∈a/\v.args=true/\v.strict=false/\∃y∈v.ps,b=⟨.own,v.aq,y⟩
theorem Kn{d:Type}{l:List d}{a:d}{P:d->Prop}:(∃x∈l++[a],P x)↔(∃x∈l,P x)\/P a:=
 ⟨fun b=>Ad b fun x c p=>(bX.mp c).imp (fun c=>⟨x,c,p⟩) fun c=>by rw[al.mp c]at p;exact p,fun h=>h.elim (fun b=>Ad b fun x c p=>⟨x,cq _ c,p⟩) fun p=>⟨a,cS _ (.head _),p⟩⟩
theorem Vg{c:List (List T)}:mk2 (c++[v::vs]) b↔mk2 c b\/(v.args=true/\v.strict=false/\∃y∈v.ps,b=⟨.own,v.aq,y⟩):=by
 constructor
 ·rintro⟨w,a,d,h⟩;exact bz (P:=fun w z=>(w.args=true/\w.strict=false/\∃y∈w.ps,b=⟨.own,w.aq,y⟩)->mk2 c b\/(v.args=true/\v.strict=false/\∃y∈v.ps,b=⟨.own,v.aq,y⟩)) (fun w a m h=>.inl ⟨w,a,m,h⟩) .inr w a d h
 ·rintro(⟨w,a,d,h⟩|h)
  ·exact⟨w,a,cq _ d,h⟩
  ·exact⟨v,vs,cS _ (.head _),h⟩
theorem R7(h:Ph k H0 H L D ES uL uV US){j:Nat}{x:V}(b:uV[j]?=some x):∃u p,US[j]?=some u/\x=.ref p/\H p=some (.tup [aZ L u.1,.str u.2])/\u.1∈ES/\u∈US:=Ad (h.au.get b) fun u a c=>Ad c fun p d e=>⟨u,p,a,d,e,h.mD u (ay a),ay a⟩
theorem Mu{P:BK->Prop}(h:∀a,D.cap a=true↔P a)(a:BK):(D.kj b).cap a=true↔P a\/a=b:=by
 show(if a=b then true else D.cap a)=true↔_;by_cases e:a=b
 ·exact Z (if_pos e) ⟨fun z=>.inr e,fun z=>rfl⟩
 ·exact Z (if_neg e) (Z (propext (h a)) ⟨.inl,fun q=>q.resolve_right e⟩)
theorem NR(c:Code X G k)(h:Ph k H0 H L D ES uL uV US)(m:v::vs∈ES)(d:b∈v.keys){g:At->V}(e:H (L.bd b)=some (.inst k.B g))(a:mq H D b g):Ph k H0 (H.set (L.bd b) (.inst k.B (upd g .cB (.bool true)))) L (D.kj b) ES uL uV US:=
 h.setB c.pC c.qi c.sH m d rfl rfl rfl (fun f n=>⟨if_neg n,rfl⟩) ⟨a.name,a.sort,congrArg V.bool (if_pos rfl).symm,a.aQ⟩
inductive Wy(k:fW)(H0:U)(L:Loc)(D:cD)(ES:List (List T))(uL:Addr)(uV:List V)(US:List (List T×String))(sL:Addr)(M:List V)(j:Nat)(aaa:U)(m:List V):Prop where
 |mk:∀D' a b c' d',(m=[.ref uL,.ref sL,a,b,c',d',.aa,.aa,.aa])->(Ph k H0 aaa L D' ES uL uV US)->JX D D'->((∀b,D'.cap b=true↔mk1 (US.take j) b))->(aaa sL=some (.list M))->Wy k H0 L D ES uL uV US sL M j aaa m
theorem Ua(c:Code X G k)(S:DZ ES US)(h:Ph k H0 H L D ES uL uV US)(hz:∀b,D.cap b=false){z:Addr}(hs:H z=some (.list M)){a b A B:V}
  (q:∀I D' a b A B,Ph k H0 I L D' ES uL uV US->JX D D'->(∀b,D'.cap b=true↔mk1 US b)->I z=some (.list M)->Q .next I [.ref uL,.ref z,a,b,A,B,.aa,.aa,.aa]) :
  forL (Bc [2,3]) (fun H=>H uL=some (.list uV)) (D8 X (d+2) G) Q 0 uV H [.ref uL,.ref z,a,b,A,B,.aa,.aa,.aa]:=by
 refine AW (Wy k H0 L D ES uL uV US z M) ?_ ?_ ⟨D,_,_,_,_,rfl,h,⟨rfl,rfl,rfl,rfl⟩,fun b=>by refine Z (hz ..) ?_;exact⟨bU,fun Ab=>Ad Ab fun u P J=>absurd P am⟩,hs⟩
 ·rintro j x C m hx ⟨D',a,b,A,B,rfl,e,s,E,xs⟩;obtain⟨⟨ch,t⟩,p,P,ex,hp,N,hum⟩:=R7 e hx;refine Z ex ⟨e.hu,_,CB hp rfl,fun K rL J=>?_⟩;cases ch with
  |nil=>exact absurd N h.st.pure.ne|cons v i=>
  have l:=cv (S.nn v i N).2;refine Lg (Ao (AD (Aa rfl rfl) (Aa rfl rfl)) (Dy c e.st N (ab l (dd rfl)) fun F p' r R J T AH=>⟨p',_,rfl,T,rfl,?_⟩) (ai _));have aj:=e.ext R;have H':∀b,mk1 (US.take (j+1)) b↔mk1 (US.take j) b\/((Ak (v::i) t).1=some b/\(Ak (v::i) t).2≠[]):=fun b=>by refine Z (AK P) ?_;exact Kn
  have o:(∀b,¬((Ak (v::i) t).1=some b/\(Ak (v::i) t).2≠[]))->∀x y,K .next F [.ref uL,.ref z,aZ L (v::i),.str t,x,y,.aa,.aa,.aa]:=fun n x y=>rL _ _ ⟨D',_,_,_,_,rfl,aj,s,fun b=>by refine Z (propext (H' ..)) (Z (propext (E ..)) ?_);exact⟨.inl,fun w=>w.resolve_right (n b)⟩,R _ _ xs⟩
  cases W:(Ak (v::i) t).1 with
  |none=>exact BJ (A0 (aB (Aa rfl rfl) Af rfl)) (o (fun b w=>by rw[W]at w;exact gU w.1) _ _)|some b=>
   refine Ay (Hu e.st.pure (.inr N) W) fun w Y hw ad hbn=>Ad (aj.st.bd w Y hw b ad) fun g ws zg=>?_;by_cases f:(Ak (v::i) t).2=[]
   ·exact BJ (bH (aB (Aa rfl rfl) Af rfl) (A0 (E7 c (Aa rfl rfl) (by rw[f]at AH;exact AH)))) (o (fun b w=>w.2 f) _ _)
   ·refine Dt (bH (aB (Aa rfl rfl) Af rfl) (DQ (E8 c (Aa rfl rfl) AH (sz (Z (ac ..) (ab HH (ab l (dd rfl))))) fun w=>f (oz.mp w)))) (V4 Af (Aa rfl rfl) ws c.oA (rL _ _ ⟨D'.kj b,_,_,_,_,rfl,NR c aj hw ad ws zg,⟨s.lst,s.aQ,s.nl,s.nc⟩,fun b'=>?_,AM (R _ _ xs) ws rfl⟩));exact Z (propext (H' ..)) (Z W ((Mu E b').trans (or_congr_right ⟨fun w=>⟨congrArg some w.symm,f⟩,fun w=>(ag w.1).symm⟩)))
 ·rintro C m ⟨aaT,a,b,A,B,rfl,e,s,E,xs⟩;rw[show US.take uV.length=US by exact Z e.au.length (Z dp rfl)]at E;exact⟨e.hu,q _ _ _ _ _ _ e s E xs⟩
inductive Wa(k:fW)(H0:U)(L:Loc)(D:cD)(ES:List (List T))(uL:Addr)(uV:List V)(US:List (List T×String))(sL:Addr)(M:List V)(a c' d':V)(v:T)(vs:List T)(P:BK->Prop)(i:Nat)(aaf:U)(m:List V):Prop where
 |mk:∀D' y,(m=[.ref uL,.ref sL,a,y,c',d',aZ L (v::vs),.aa,.aa])->(Ph k H0 aaf L D' ES uL uV US)->JX D D'->((∀b,D'.cap b=true↔P b\/(∃y∈v.ps.take i,b=⟨.own,v.aq,y⟩)))->(aaf sL=some (.list M))->Wa k H0 L D ES uL uV US sL M a c' d' v vs P i aaf m
theorem Pk(c:Code X G k)(h:Ph k H0 H L D' ES uL uV US)(Ab:JX D D'){n:Addr}(R:H n=some (.list M))(o:v::vs∈ES)(z:v.aK=true)(S:D.lst v.aq .params=v.ps.map .str){P:BK->Prop}(AH:∀b,D'.cap b=true↔P b){a y B C:V}
  (q:∀I D' y,Ph k H0 I L D' ES uL uV US->JX D D'->(∀b,D'.cap b=true↔P b\/∃y∈v.ps,b=⟨.own,v.aq,y⟩)->I n=some (.list M)->Q .next I [.ref uL,.ref n,a,y,B,C,aZ L (v::vs),.aa,.aa]) :
  forL (AB 3) (fun H=>H (L.ls v.aq .params)=some (.list (v.ps.map .str))) (Ej X (d+2) G) Q 0 (v.ps.map .str) H [.ref uL,.ref n,a,y,B,C,aZ L (v::vs),.aa,.aa]:=by
 have N:∀{H:U} {f:cD},Ph k H0 H L f ES uL uV US->JX D f->H (L.ls v.aq .params)=some (.list (v.ps.map .str)):=fun g e=>by
  have:=g.st.ls v vs o z .params (dd rfl);rwa [e.lst,S]at this
 refine AW (Wa k H0 L D ES uL uV US n M a B C v vs P) ?_ ?_ ⟨D',_,rfl,h,Ab,fun b=>(AH b).trans ⟨.inl,fun w=>w.resolve_right fun E=>Ad E fun y aj Y=>absurd aj am⟩,R⟩
 ·rintro i x p m W ⟨f,y,rfl,j,l,A,F⟩;refine Ad (CU W) fun s r H'=>?_;subst H';have t:=Mk (ay r);refine Ad (j.st.fn v vs o z) fun f3 ad ws=>AA (j.st.dc v vs o z) fun ep rL=>?_;have u:=K3 z t;exact Ad (j.st.bd v vs o _ u) fun g K zg=>⟨N j l,_,rfl,fun K' xs Y=>V4 Af (Fm (Am (Aa rfl rfl) (c.fS ad ws.own rfl rfl)) (Aa rfl rfl) (.dict rL (Cy t))) K c.oA (xs _ _ ⟨f.kj ⟨.own,v.aq,s⟩,_,rfl,NR c j o u K zg,⟨l.lst,l.aQ,l.nl,l.nc⟩,fun b'=>(Z (AK r) ((Mu A b').trans (or_assoc.trans (or_congr_right (Kn).symm)))),AM F K rfl⟩)⟩
 ·rintro p m ⟨f,y,rfl,j,l,A,F⟩;rw[ac,dp]at A;exact⟨N j l,q _ _ _ j l A F⟩
inductive Wz(k:fW)(H0:U)(L:Loc)(D:cD)(ES:List (List T))(uL:Addr)(uV:List V)(US:List (List T×String))(sL:Addr)(fs:List (List T))(j:Nat)(aab:U)(m:List V):Prop where
 |mk:∀D' a b c' d' sc,(m=[.ref uL,.ref sL,a,b,c',d',sc,.aa,.aa])->(Ph k H0 aab L D' ES uL uV US)->JX D D'->((∀b,D'.cap b=true↔mk1 US b\/mk2 (fs.take j) b))->(aab sL=some (.list (fs.map (aZ L))))->Wz k H0 L D ES uL uV US sL fs j aab m
theorem KD(c:Code X G k)(S:DZ ES US)(h:Ph k H0 H L D ES uL uV US)(hz:∀b,D.cap b=false){sL:Addr}(hs:H sL=some (.list (fs.map (aZ L))))(hf:∀c∈fs,c∈ES/\Qq c=true)(hP:∀v vs,v::vs∈ES->v.aK=true->D.lst v.aq .params=v.ps.map .str){Q:V->U->Prop}
  (q:∀I D',Ph k H0 I L D' ES uL uV US->JX D D'->(∀b,D'.cap b=true↔mk1 US b\/mk2 fs b)->I sL=some (.list (fs.map (aZ L)))->Q .none I):aG X (d+3) H (G "mark_captured") [.ref uL,.ref sL] Q:=by
 refine c.gG.call rfl (J9 (Aa rfl rfl) h.hu (Ua c S h hz hs fun aaa aaT a b c' d' h1 e1 e5 h2=>jQ (Lo (Aa rfl rfl) h2 (AW (Wz k H0 L D ES uL uV US sL fs) ?_ ?_
  ⟨aaT,_,_,_,_,_,rfl,h1,e1,fun b=>(e5 b).trans ⟨.inl,fun w=>w.resolve_right fun zqz=>AQ zqz fun v vs m t=>absurd m am⟩,h2⟩))))
 ·rintro j x aab m hx ⟨D',a,b,c',d',sc,rfl,h1,e1,e5,h2⟩;refine Ad (CU hx) fun ch hch zq2=>?_;subst zq2;have hm:=hf ch (ay hch);refine⟨h2,_,rfl,fun K hK t=>?_⟩;cases ch with
  |nil=>exact bU hm.2|cons v vs=>
  refine aV hm fun hm hvf=>?_;have mkS:∀b,mk2 (fs.take (j+1)) b↔mk2 (fs.take j) b\/(v.args=true/\v.strict=false/\∃y∈v.ps,b=⟨.own,v.aq,y⟩):=fun b=>by refine Z (AK hch) ?_;exact Vg
  refine Ad (h1.st.fn v vs hm hvf) fun f ef z=>?_;have skip:¬(v.args=true/\v.strict=false)->K .next aab [.ref uL,.ref sL,a,b,c',d',aZ L (v::vs),.aa,.aa]:=fun hn=>
   hK _ _ ⟨D',_,_,_,_,_,rfl,h1,e1,fun b=>by refine Z (propext (mkS ..)) (Z (propext (e5 ..)) ?_);exact⟨fun h=>h.imp_right .inl,fun h=>h.imp_right fun h=>h.resolve_right fun h=>hn ⟨h.1,h.2.1⟩⟩,h2⟩
  have pf:∀{j v'},f j=v'->jO v'=false->mO v'=false->Pv (Aj X j (O 6)) aab [.ref uL,.ref sL,a,b,c',d',aZ L (v::vs),.aa,.aa] v':=fun e u b=>Am (Aa rfl rfl) (c.fS ef e u b);have ta:=AJ (pf z.args rfl rfl);have ts:=DQ (IP (AJ (pf z.strict rfl rfl)));cases ha:v.args with
  |false=>rw[ha]at ta;exact BJ (A0 ta) (skip fun w=>by rw[ha]at w;exact bU w.1)
  |true=>
   rw[ha]at ta;cases hst:v.strict with
   |true=>rw[hst]at ts;exact BJ (bH ta ts) (skip fun w=>by rw[hst]at w;exact bU w.2.symm)
   |false=>
    rw[hst]at ts;have hl:=h1.st.ls v vs hm hvf .params (dd rfl);rw[e1.lst,hP v vs hm hvf]at hl;exact Dt (bH ta ts) (Lo (pf (z.lst .params (dd rfl)) rfl rfl) hl (Pk c h1 e1 h2 hm hvf (hP v vs hm hvf) e5 fun aaf aa2 y g1 g2 g6 g7=>hK _ _ ⟨aa2,_,_,_,_,_,rfl,g1,g2,fun b=>(Z (propext (g6 ..)) (Z (propext (mkS ..)) (Z (propext or_assoc) (or_congr_right (or_congr_right ⟨fun w=>⟨ha,hst,w⟩,fun w=>w.2.2⟩))))),g7⟩))
 ·rintro aab m ⟨D',a,b,c',d',sc,rfl,h1,e1,e5,h2⟩;rw[ac,dp]at e5;exact⟨h2,q aab D' h1 e1 e5 h2⟩
def Kp(H I:U):Prop:=∀a o,(∀C f,o≠.inst C f)->H a=some o->I a=some o
theorem Kp.refl(H:U):Kp H H:=fun z z z e=>e
theorem Kp.trans{H'':U}(h:Kp H I)(b:Kp I H''):Kp H H'':=fun a o n e=>b a o n (h a o n e)
theorem aD.kp(h:aD H I):Kp H I:=fun a o z e=>h a o e
theorem Kp.qD(h:Kp H I){z C:Addr}{o:bI}(e:I z=some (.inst C f)):Kp H (I.set z o):=fun a b n c=>BC (h a b n c) e (n C f)
theorem Kp.list(h:Kp H I)(e:H a=some (.list M)):I a=some (.list M):=h a _ (fun z z=>Bu rfl) e
noncomputable def cD.give(D:cD)(a:Addr)(b:BK):cD:=
 if D.cap b then{D with aQ:=fun c=>if c=b then some ("cell",D.nc a)else D.aQ c,nc:=fun d=>if d=a then D.nc a+1 else D.nc d}
 else{D with aQ:=fun c=>if c=b then some ("local",D.nl a)else D.aQ c,nl:=fun d=>if d=a then D.nl a+1 else D.nl d}
def Be(a:Addr)(y:String)(US:List (List T×String)):Bool:=US.any fun u=>decide (u.2=y)&&decide ((Ak u.1 u.2).1=some ⟨.self,a,y⟩)
def BN:List T->BK
 |[]=>⟨.cat,0,""⟩
 |v::_=>⟨.cat,v.aq,v.names.headD ""⟩
def HX(US:List (List T×String))(v:T):List BK:=match v.bM with
 |none=>[]
 |some y=>if Be v.aq y US then[⟨.self,v.aq,y⟩]else[]
def bG(US:List (List T×String))(ES:List (List T))(v:T):List BK:=v.names.map (fun y=>⟨.own,v.aq,y⟩)++HX US v++(CV ES v.aq).map BN
theorem Kp.dict(h:Kp H I){M:List (String×V)}{b:Nat}(e:H a=some (.dict M b)):I a=some (.dict M b):=h a _ (fun z z=>Bu rfl) e
theorem mQ.upd{f':At->V}(z:mQ L D v vs f)(h:∀j,j≠.bD->j≠.bQ->f' j=f j)(b:f' .bD=.int (D'.nl v.aq))(c:f' .bQ=.int (D'.nc v.aq)):mQ L D' v vs f':=
 ⟨(h _ (dd rfl) (dd rfl)).trans z.node,(h _ (dd rfl) (dd rfl)).trans z.parent,(h _ (dd rfl) (dd rfl)).trans z.bO,(h _ (dd rfl) (dd rfl)).trans z.sort,(h _ (dd rfl) (dd rfl)).trans z.strict,(h _ (dd rfl) (dd rfl)).trans z.args,(h _ (dd rfl) (dd rfl)).trans z.own,(h _ (dd rfl) (dd rfl)).trans z.self,b,c,
  fun j a=>(h _ (fun e=>absurd a (by refine Z e ?_;decide)) fun e=>absurd a (by refine Z e ?_;decide)).trans (z.lst j a)⟩
theorem Pi(c:Code X G k)(h:Ph k H0 H L D ES uL uV US){w:T}{Y:List T}(m:v::vs∈ES)(hf:v.aK=true)(mw:w::Y∈ES)(hb:b∈w.keys){g:At->V}(ef:H (L.sc v.aq)=some (.inst k.S f))(eg:H (L.bd b)=some (.inst k.B g))(zg:mq H D b g)
  {s:String} {j:At} (q:∀I,Ph k H0 I L D' ES uL uV US->Kp H I->Q .next I [aZ L (v::vs),.ref (L.bd b)]) (hj:f j=.int n) (hd:D'.lst=D.lst/\D'.cap=D.cap) (hp:D'.aQ=fun b'=>if b'=b then some (s,n)else D.aQ b') (ho:∀a,a≠v.aq->D'.nl a=D.nl a/\D'.nc a=D.nc a) (hg:mQ L D' v vs (upd f j (.int (n+1)))):az (Aq X .place (Bg (Ac (Ae (.str s)) (Ac (Aj X j (O 0)) Ag))) (O 1)) (ER X j (O 0) (Ae (.int 1))) H [aZ L (v::vs),.ref (L.bd b)] Q:=by
 have nSB:L.sc v.aq≠L.bd b:=fun z=>by rw[z,eg]at ef;exact c.qi (bI.inst.inj (ag ef)).1.symm
 refine Ju (bV (AD Af (Am (Aa rfl rfl) (c.fS ef hj rfl rfl))) (dd rfl:2<=aT) fun p hp'=>Aa rfl rfl _ ⟨_,k.B,g,rfl,Ah hp' eg,c.oA,?_⟩);have hE:aD H (H.set p (.tup [.str s,.int n])):=aD.set hp';have ef2:((H.set p (.tup [.str s,.int n])).set (L.bd b) (.inst k.B (upd g .place (.ref p)))) (L.sc v.aq)=some (.inst k.S f):=by refine Z (U.aC _ _ nSB) ?_;exact hE _ _ ef
 have h2:=(h.ext hE).setB c.pC c.qi c.sH (D':={D with aQ:=fun b'=>if b'=b then some (s,n)else D.aQ b'}) (g':=upd g .place (.ref p)) mw hb rfl rfl rfl (fun b' n=>⟨rfl,if_neg n⟩)
  ⟨zg.name,zg.sort,zg.cap,by show cC _ (.ref p) (if b=b then _ else _);refine Z (if_pos rfl) ?_;exact⟨p,rfl,U.ak ..⟩⟩
 exact Adl (Aa rfl rfl) ef2 c.jb hj Af (q _ (h2.o8 c.pF c.qi c.rP m hf hd.1 hd.2 hp ho hg) ((hE.kp.qD (hE _ _ eg)).qD ef2))
theorem Hp(h:D.cap b=true)(a:Addr):D.give a b={D with aQ:=fun c=>if c=b then some ("cell",D.nc a)else D.aQ c,nc:=fun d=>if d=a then D.nc a+1 else D.nc d}:=if_pos h
theorem HK(h:D.cap b=false)(a:Addr):D.give a b={D with aQ:=fun c=>if c=b then some ("local",D.nl a)else D.aQ c,nl:=fun d=>if d=a then D.nl a+1 else D.nl d}:=if_neg (by refine Z h ?_;exact ax)
theorem Fd(c:Code X G k)(h:Ph k H0 H L D ES uL uV US){w:T}{Y:List T}(m:v::vs∈ES)(hf:v.aK=true)(mw:w::Y∈ES)(hb:b∈w.keys){Q:V->U->Prop}
  (q:∀I,Ph k H0 I L (D.give v.aq b) ES uL uV US->Kp H I->Q .none I):aG X (d+1) H (G "give_place") [aZ L (v::vs),.ref (L.bd b)] Q:=by
 refine Ad (h.st.bd w Y mw b hb) fun g eg zg=>Ad (h.st.fn v vs m hf) fun f ef zf=>?_;have tt:=AJ (Am (Aa (i:=1) (m:=[aZ L (v::vs),.ref (L.bd b)]) rfl rfl) (c.fB eg zg.cap rfl rfl));refine c.iH.call rfl ?_;cases hc:D.cap b with
 |true=>
  rw[hc]at tt;rw[Hp hc]at q;exact Dt tt (Pi c h m hf mw hb ef eg zg q zf.nc ⟨rfl,rfl⟩ rfl (fun a n=>⟨rfl,if_neg n⟩) (zf.upd (fun j z n=>if_neg n) zf.nl (congrArg (fun n:Nat=>V.int n) (if_pos rfl).symm)))
 |false=>
  rw[hc]at tt;rw[HK hc]at q;exact iB tt (Pi c h m hf mw hb ef eg zg q zf.nl ⟨rfl,rfl⟩ rfl (fun a n=>⟨if_neg n,rfl⟩) (zf.upd (fun j n z=>if_neg n) (congrArg (fun n:Nat=>V.int n) (if_pos rfl).symm) zf.nc))
theorem Zq(h:St k H0 H L D ES){a:BK}{w:T}{Y:List T}(m:v::vs∈ES)(d:b∈v.keys)(m':w::Y∈ES)(c:a∈w.keys)(cm:Addr->Bool):Bv cm H .Is (.ref (L.bd b)) (.ref (L.bd a))=some (decide (b=a)):=by
 refine Ad (h.bd _ _ m b d) fun g e y=>Ad (h.bd _ _ m' a c) fun i f y=>?_;simp only[Xy,Wd,e,f];exact congrArg some (decide_eq_decide.mpr ⟨h.pure.qQ _ _ _ _ m m' b d a c,fun z=>congrArg L.bd z⟩)
theorem Tf(h:St k H0 H L D ES){a:String}(c:ch∈ES)(m:v::vs∈ES)(d:v.bM=some y)(cm:Addr->Bool):Bv cm H .Is (oZ L (Ak ch a).1) (.ref (L.bd ⟨.self,v.aq,y⟩))=some (decide ((Ak ch a).1=some ⟨.self,v.aq,y⟩)):=by
 cases e:(Ak ch a).1 with
 |none=>exact congrArg some (decide_eq_false gU).symm|some g=>
  exact Ay (Hu h.pure (.inr c) e) fun w i f b z=>(Zq h f b m (EJ d) cm).trans (congrArg some (decide_eq_decide.mpr ⟨congrArg some,ag⟩))
theorem Nf(a:Addr)(y:String)(us:List (List T×String))(u:List T×String):Be a y (us++[u])=(Be a y us||(decide (u.2=y)&&decide ((Ak u.1 u.2).1=some ⟨.self,a,y⟩))):=by
 unfold Be;exact Z List.any_append (Z kK (Z List.any_nil (Z (kf ..) rfl)))
inductive Uz(k:fW)(H:U)(L:Loc)(uL:Addr)(US:List (List T×String))(v:T)(vs:List T)(y:String)(j:Nat)(aaa:U)(m:List V):Prop where
 |mk (a b:V):m=[aZ L (v::vs),.ref uL,a,b,.aa]->aD H aaa->Be v.aq y (US.take j)=false->Uz k H L uL US v vs y j aaa m
theorem LA(c:Code X G k)(S:DZ ES US)(h:Ph k H0 H L D ES uL uV US)(m:v::vs∈ES)(hf:v.aK=true)(hs:v.bM=some y){Q:V->U->Prop}
  (q:∀I,aD H I->Q (.bool (Be v.aq y US)) I):aG X (d+3) H (G "is_self_used") [aZ L (v::vs),.ref uL] Q:=by
 refine c.gO.call rfl (J9 (Aa rfl rfl) h.hu (AW (Uz k H L uL US v vs y) ?_ ?_ ⟨_,_,rfl,aD.refl H,rfl⟩))
 ·rintro j x aaa mm hx ⟨a,b,rfl,hE,hno⟩;have h1:=h.ext hE;obtain⟨⟨ch,nm⟩,p,hu,ex,hp,hc,hum⟩:=R7 h1 hx;refine Z ex ⟨h1.hu,_,CB hp rfl,fun K hK hR=>?_⟩;have hnext:∀I,aD H I->(decide (nm=y)&&decide ((Ak ch nm).1=some ⟨.self,v.aq,y⟩))=false->K .next I [aZ L (v::vs),.ref uL,aZ L ch,.str nm,.aa]:=fun I e w=>hK _ _ ⟨_,_,rfl,e,by refine Z (AK hu) (Z (Nf ..) (Z hno (Z w ?_)));rfl⟩
  refine Ad (h1.st.fn v vs m hf) fun f ef zf=>?_;have zs:=zf.self.trans (Z hs rfl);refine Ad (h1.st.bd v vs m _ (EJ hs)) fun g eg zg=>?_;have ps:=Am (m:=[aZ L (v::vs),.ref uL,aZ L ch,.str nm,.aa]) (Aa (i:=0) rfl rfl) (c.fS ef zs rfl rfl);cases ch with
  |nil=>exact absurd hc h.st.pure.ne|cons w Y=>
  by_cases hn:nm=y
  ·refine We (KL (aB (Aa rfl rfl) (Am ps (c.fB eg zg.name rfl rfl)) (Mb hn)) (Ao (AD (Aa rfl rfl) (Aa rfl rfl)) (Dy c h1.st hc (ab (cv (S.nn w Y hc).2) (dd rfl)) fun aaf p' r hE3 z hp' hr=>⟨_,.tup hp' (dd rfl) (dd rfl) rfl,Am (Aa rfl rfl) (c.fS (hE3 _ _ ef) zs rfl rfl) _ ⟨_,Tf (h1.st.ext hE3) hc m hs _,?_⟩⟩) (ai _)));by_cases hl:(Ak (w::Y) nm).1=some ⟨.self,v.aq,y⟩
   ·refine Z (decide_eq_true hl) ?_;have hall:Be v.aq y US=true:=fe.mpr ⟨_,hum,by refine Z (decide_eq_true hn) (Z (decide_eq_true hl) ?_);rfl⟩;exact lL (A9 Af (hR _ _ _ (Z (ap hall) (q aaf (hE.trans hE3)))))
   ·exact Z (decide_eq_false hl) (gF (hnext _ (hE.trans hE3) (Z (decide_eq_false hl) (Z (Bool.and_false ..) rfl))))
  ·exact BJ (A0 (aB (Aa rfl rfl) (Am ps (c.fB eg zg.name rfl rfl)) (Mp hn))) (hnext _ hE (by refine Z (decide_eq_false hn) ?_;rfl))
 ·rintro aaa mm ⟨a,b,rfl,hE,hno⟩;rw[h.au.length,dp]at hno;have:=q aaa hE;rw[hno]at this;exact⟨hE _ _ h.hu,jQ (A9 Af this)⟩
def EH(D:cD)(a:Addr)(bs:List BK):cD:=bs.foldl (fun D b=>D.give a b) D
theorem Fj(D:cD)(a:Addr)(bs:List BK)(b:BK):EH D a (bs++[b])=(EH D a bs).give a b:=by unfold EH;refine Z ja ?_;rfl
theorem P7(D:cD)(a:Addr)(b:BK):(D.give a b).lst=D.lst:=by
 cases h:D.cap b with
 |true=>exact Z (Hp h ..) rfl|false=>exact Z (HK h ..) rfl
theorem UV(D:cD)(a:Addr)(b:BK):(D.give a b).cap=D.cap:=by
 cases h:D.cap b with
 |true=>exact Z (Hp h ..) rfl|false=>exact Z (HK h ..) rfl
theorem Nv(a:Addr)(bs:List BK):∀(D:cD),(EH D a bs).lst=D.lst:=by
 induction bs with
 |nil=>exact fun z=>rfl
 |cons b bs c=>exact fun D=>(c (D.give a b)).trans (P7 D a b)
theorem Tr(D:cD)(a:Addr)(bs cs:List BK):EH D a (bs++cs)=EH (EH D a bs) a cs:=ja
theorem cC.def{x:V}{o:Option (String×Nat)}(h:cC H x o):jO x=false/\mO x=false:=by
 cases o with
 |none=>refine Z (h) ?_;exact⟨rfl,rfl⟩
 |some p=>refine Ad h fun a e z=>?_;exact Z e ⟨rfl,rfl⟩
structure kO(H:U)(D:cD)(v:T)(pvs:List V):Prop where
 all:bw (fun x y=>cC H x (D.aQ ⟨.own,v.aq,y⟩)) pvs v.ps
theorem Pg(h:c∈CV R a):c∈R/\∃v vs,c=v::vs/\v.aK=false/\gY vs=a:=by
 refine aV (fy.mp h) fun d b=>?_;cases c with
 |nil=>exact bU b|cons v vs=>exact⟨d,v,vs,rfl,(lT _).mp ((be _ _).mp b).1,i5 ((be _ _).mp b).2⟩
structure PQ(D D':cD):Prop where
 cap:D'.cap=D.cap
 aQ:D'.aQ=D.aQ
 nl:D'.nl=D.nl
 nc:D'.nc=D.nc
inductive RJ(k:fW)(H0 H:U)(L:Loc)(D:cD)(ES:List (List T))(uL:Addr)(uV:List V)(US:List (List T×String))(v:T)(vs:List T)(i:Nat)(m0:List V)(bs:List BK)(j:Nat)(aaa:U)(m:List V):Prop where
 |mk (b:V):m=m0.set i b->Ph k H0 aaa L (EH D v.aq (bs.take j)) ES uL uV US->Kp H aaa->RJ k H0 H L D ES uL uV US v vs i m0 bs j aaa m
inductive WZ(k:fW)(H0 H:U)(L:Loc)(D D1:cD)(ES:List (List T))(uL:Addr)(uV:List V)(US:List (List T×String))(v:T)(vs:List T)(b:V)(j:Nat)(aab:U)(mm:List V):Prop where
 |mk:∀D' y pvs,(mm=[aZ L (v::vs),.ref uL,y,b,.aa,.aa])->(Ph k H0 aab L D' ES uL uV US)->PQ D1 D'->((∀a j,¬(a=v.aq/\j=.aA)->D'.lst a j=D.lst a j))->(D'.lst v.aq .aA=pvs)->(bw (fun x y=>cC aab x (D1.aQ ⟨.own,v.aq,y⟩)) pvs (v.ps.take j))->((∀a o,a≠L.ls v.aq .aA->(∀C f,o≠.inst C f)->H a=some o->aab a=some o))->(aab (L.ls v.aq .params)=some (.list (v.ps.map .str)))->WZ k H0 H L D D1 ES uL uV US v vs b j aab mm
theorem yU(c:Code X G k){B:cD}{p:U}(xs:Ph k H0 p L B ES uL uV US)(m:v::vs∈ES)(r:v.aK=true)(u:B.lst=D.lst)(hP:D.lst v.aq .params=v.ps.map .str)(Ab:D.lst v.aq .aA=[])(P:v.ps.length<=10000)(hk:Kp H p){b2 b:V}
  (q:∀I D' h m',Ph k H0 I L D' ES uL uV US->PQ B D'->(∀a j,¬(a=v.aq/\j=.aA)->D'.lst a j=D.lst a j)->D'.lst v.aq .aA=h->kO I D' v h->(∀a o,a≠L.ls v.aq .aA->(∀C f,o≠.inst C f)->H a=some o->I a=some o)->Q .next I m') :
  QH X (d+4) G p [aZ L (v::vs),.ref uL,b2,b,.aa,.aa] Q:=by
 refine Ad (xs.st.fn v vs m r) fun f1 R S=>?_;have AH:=xs.st.ls v vs m r .params (dd rfl);rw[u,hP]at AH;have aj:L.ls v.aq .params≠L.ls v.aq .aA:=fun z=>absurd (xs.st.pure.pD v vs v vs m m r r .params (dd rfl) .aA (dd rfl) z).2 (dd rfl);refine Lo (Am (Aa rfl rfl) (c.fS R (S.lst .params (dd rfl)) rfl rfl)) AH (AW (WZ k H0 H L D B ES uL uV US v vs b) ?_ ?_ ⟨B,_,[],rfl,xs,⟨rfl,rfl,rfl,rfl⟩,fun a j Y=>by exact Z u rfl,by exact Z u (Z Ab rfl),trivial,fun a o Y n e=>hk a o n e,AH⟩)
 ·rintro j x l mm hx ⟨D',y,h,rfl,w,t,W,ws,E,rL,N⟩;refine Ad (CU hx) fun s hs zq2=>?_;subst zq2;have F:=Mk (ay hs);refine Ad (w.st.fn v vs m r) fun f2 H' ad=>?_;have A:=w.st.ls v vs m r .aA (dd rfl);rw[ws]at A;refine AA (w.st.dc v vs m r) fun ep ed=>Ad (w.st.bd v vs m _ (K3 r F)) fun g eg zg=>?_;have tk:lC l (l.set (L.ls v.aq .aA) (.list (h++[g .place]))):=lC.set A fun Y=>Bu rfl;refine⟨N,_,rfl,fun K hK Y=>Ib (Am (Aa rfl rfl) (c.fS H' (ad.lst .aA (dd rfl)) rfl rfl)) A (sz (Z E.length (ab (jS ..) (ab P (dd rfl)))))
   (Am (Fm (Am (Aa rfl rfl) (c.fS H' ad.own rfl rfl)) (Aa rfl rfl) (.dict ed (Cy F))) (c.fB eg rfl zg.aQ.def.1 zg.aQ.def.2)) (hK _ _ ⟨D'.cA v.aq .aA (h++[g .place]),_,_,rfl,w.cA m r (dd rfl),⟨t.cap,t.aQ,t.nl,t.nc⟩,fun a i hn=>(if_neg hn).trans (W a i hn),if_pos ⟨rfl,rfl⟩,?_,fun a o n1 n2 e=>?_,?_⟩)⟩
  ·exact Z (AK hs) ((E.mono fun a b Y z=>z.ext tk).app ⟨by have:=zg.aQ.ext tk;rwa [t.aQ]at this,trivial⟩)
  ·exact Z (U.aC _ _ n1) (rL a o n1 n2 e)
  ·exact Z (U.aC _ _ aj) N
 ·rintro l mm ⟨D',y,h,rfl,w,t,W,ws,E,rL,N⟩;rw[ac,dp]at E;exact⟨N,q l D' h _ w t W ws ⟨by refine Z t.aQ ?_;exact E⟩ rL⟩
theorem AdS(c:Code X G k)(h:Ph k H0 H L D ES uL uV US)(m:v::vs∈ES)(u:v.aK=true)(aj:D.lst v.aq .params=v.ps.map .str)(W:D.lst v.aq .aN=(CV ES v.aq).map (aZ L))(B:D.lst v.aq .aA=[])(E:v.ps.length<=10000){P R:V}
  (q:∀I D' n m',Ph k H0 I L D' ES uL uV US->PQ (EH D v.aq ((CV ES v.aq).map BN)) D' ->
   (∀a j,¬(a=v.aq/\j=.aA)->D'.lst a j=D.lst a j)->D'.lst v.aq .aA=n->kO I D' v n->(∀a o,a≠L.ls v.aq .aA->(∀C f,o≠.inst C f)->H a=some o->I a=some o)->Q .next I m') :
  Re X (d+4) G H [aZ L (v::vs),.ref uL,P,R,.aa,.aa] Q:=by
 refine Ad (h.st.fn v vs m u) fun f ws rL=>?_;have z:=h.st.ls v vs m u .aN (dd rfl);rw[W]at z;refine J9 (Am (Aa rfl rfl) (c.fS ws (rL.lst .aN (dd rfl)) rfl rfl)) z (AW (RJ k H0 H L D ES uL uV US v vs 3 [aZ L (v::vs),.ref uL,P,R,.aa,.aa] ((CV ES v.aq).map BN)) ?_ ?_ ⟨_,rfl,h,Kp.refl H⟩)
 ·rintro j x p mm hx ⟨b,rfl,r,s⟩;refine Ad (CU hx) fun ch g F=>?_;subst F;refine aV (Pg (ay g)) fun A zr=>Ay zr fun w H' e i hwa=>?_;rw[e]at A g ⊢;refine Ad (r.st.ca w H' A i) fun fc ad xs=>Ad (PO ((h.st.pure.knd w H' A).resolve_left (by rw[i];exact ax))) fun y S Z=>?_;have t:y∈w.names:=by rw[S];exact .head _
  refine⟨s.list z,_,rfl,fun K hK Z=>Gj (Ao (AD (Aa rfl rfl) (Am (Aa rfl rfl) (c.fC ad (xs.name y t).2 rfl rfl)))
   (Fd c r m u A (Pd i t) fun AH h2 N=>hK _ _ ⟨_,List.set_set _,?_,s.trans N⟩) (dd rfl))⟩
  have Ab:BN (w::H')=⟨.cat,w.aq,y⟩:=congrArg (fun l:List String=>(⟨.cat,w.aq,l.headD ""⟩:BK)) S;rw[AK (show((CV ES v.aq).map BN)[j]?=some ⟨.cat,w.aq,y⟩by rw[b9,g,<-Ab];rfl),Fj];exact h2
 rintro p mm ⟨b,rfl,r,s⟩;rw[ac,show(CV ES v.aq).length=((CV ES v.aq).map BN).length from(ac ..).symm,dp]at r;exact⟨s.list z,jQ (yU c r m u (Nv ..) aj B E s q)⟩
theorem DR(h:v.bM=none):HX US v=[]:=by unfold HX;exact Z h rfl
theorem DB(h:v.bM=some y):HX US v=if Be v.aq y US then[⟨.self,v.aq,y⟩]else[]:=by unfold HX;exact Z h rfl
theorem M7(c:Code X G k)(S:DZ ES US)(h:Ph k H0 H L D ES uL uV US)(m:v::vs∈ES)(r:v.aK=true)(hP:D.lst v.aq .params=v.ps.map .str)(hC:D.lst v.aq .aN=(CV ES v.aq).map (aZ L))(ws:D.lst v.aq .aA=[])(rL:v.ps.length<=10000){Q:V->U->Prop}
  (q:∀I D' t,Ph k H0 I L D' ES uL uV US->PQ (EH D v.aq (bG US ES v)) D' ->
   (∀a j,¬(a=v.aq/\j=.aA)->D'.lst a j=D.lst a j)->D'.lst v.aq .aA=t->kO I D' v t->(∀a o,a≠L.ls v.aq .aA->(∀C f,o≠.inst C f)->H a=some o->I a=some o)->Q .none I) :
  aG X (d+5) H (G "give_places") [aZ L (v::vs),.ref uL] Q:=by
 refine Ad (h.st.fn v vs m r) fun f ef zf=>AA (h.st.dc v vs m r) fun ep aj=>?_;have H':HF (v.names.map fun y=>(y,V.ref (L.bd ⟨.own,v.aq,y⟩)))=v.names.map .str:=by unfold HF;rw[f8];rfl
 refine c.gZ.call rfl (Aaf (Am (Aa (v:=aZ L (v::vs)) rfl rfl) (c.fS ef zf.own rfl rfl)) aj ?_);rw[H'];refine AW (RJ k H0 H L D ES uL uV US v vs 2 [aZ L (v::vs),.ref uL,.aa,.aa,.aa,.aa] (v.names.map fun y=>⟨.own,v.aq,y⟩)) ?_ ?_ ⟨_,rfl,h,Kp.refl H⟩
 ·rintro j x p mm hx ⟨b,rfl,E,F⟩;refine Ad (CU hx) fun s z zq2=>?_;subst zq2;have Ab:=ay z;refine Ad (E.st.fn v vs m r) fun f1 A ad=>?_;refine⟨F.dict aj,_,rfl,fun K hK Z=>Gj (Ao (e₂:=4) (AD (Aa (v:=aZ L (v::vs)) rfl rfl) (Fm (Am (Aa (v:=aZ L (v::vs)) rfl rfl) (c.fS A ad.own rfl rfl)) (Aa (v:=.str s) rfl rfl) (.dict (F.dict aj) (Cy Ab))))
   (Fd (d:=d) c E m r m (K3 r Ab) fun g N xs=>hK _ _ ⟨_,List.set_set _,?_,F.trans xs⟩) (dd rfl))⟩
  rw[AK (show(v.names.map fun y=>(⟨.own,v.aq,y⟩:BK))[j]?=some ⟨.own,v.aq,s⟩by rw[b9,z];rfl),Fj];exact N
 rintro p mm ⟨b,rfl,E,F⟩;rw[ac,show v.names.length=(v.names.map fun y=>(⟨.own,v.aq,y⟩:BK)).length from(ac ..).symm,dp]at E;refine⟨F.dict aj,jQ ?_⟩;have l:∀g,Ph k H0 g L (EH D v.aq (v.names.map (fun y=>⟨.own,v.aq,y⟩)++HX US v)) ES uL uV US->Kp H g->Re X (d+4) G g [aZ L (v::vs),.ref uL,b,.aa,.aa,.aa] (fun fl p Z=>Q fl.val p):=by
  intro g N xs;have B:=Nv v.aq (v.names.map (fun y=>(⟨.own,v.aq,y⟩:BK))++HX US v) D;refine AdS c N m r (by rw[B];exact hP) (by rw[B];exact hC) (by rw[B];exact ws) rL fun I D' t m' g1 g2 g6 g7 g8 g9=>?_;rw[<-Tr]at g2;exact q I D' t g1 g2 (fun a j n=>(g6 a j n).trans (by rw[B])) g7 g8 fun a o n1 n2 e=>g9 a o n1 n2 (xs a o n2 e)
 refine Ad (E.st.fn v vs m r) fun f1 A ad=>?_;have ps:=fun y (w:f1 .aH=y) u b'=>Am (m:=[aZ L (v::vs),.ref uL,b,.aa,.aa,.aa]) (Aa (i:=0) (v:=aZ L (v::vs)) rfl rfl) (c.fS A w u b');have P:=ad.self;cases z:v.bM with
 |none=>
  rw[z]at P;rw[DR z,aS]at l;exact Bs (A0 (aB (ps .none P rfl rfl) Af rfl)) (l p E F)
 |some y=>
  rw[z]at P;rw[DB z]at l;refine fO (KL (aB (ps _ P rfl rfl) Af rfl) (Ao (e₂:=4) (AD (Aa (v:=aZ L (v::vs)) rfl rfl) (Aa (v:=.ref uL) rfl rfl)) (LA (d:=d) c S E m r z fun g W=>⟨_,rfl,?_⟩) (dd rfl)));have N:=E.ext W;cases R:Be v.aq y US with
  |false=>
   rw[R,show(if false=true then[(⟨.self,v.aq,y⟩:BK)]else[])=[]from rfl,aS]at l;exact gF (gF (l g N (F.trans W.kp)))
  |true=>
   rw[R,show(if true=true then[(⟨.self,v.aq,y⟩:BK)]else[])=[⟨.self,v.aq,y⟩]from rfl,Fj]at l;exact lL (S0 (lL (LK (Ao (AD (Aa rfl rfl) (Am (Aa rfl rfl) (c.fS (W _ _ A) P rfl rfl))) (Fd c N m r m (EJ z) fun AH h3 hk3=>l AH h3 ((F.trans W.kp).trans hk3)) (dd rfl)))))
structure dj where
 bC:Addr->List BK
 fG:Addr->List (Bool×Nat)
noncomputable def dj.add(st:dj)(a:Addr)(b:BK)(p:Bool×Nat):dj:=⟨fun c=>if c=a then st.bC a++[b]else st.bC c,fun c=>if c=a then st.fG a++[p]else st.fG c⟩
def Cc(n:Nat)(b:BK)(st:dj)(first:Bool)(c:Nat)(a:Addr):dj×Nat:=
 match(st.bC a).findIdx? (fun d=>decide (d=b))with
 |some i=>(st,i)
 |none=>(st.add a b (if first then(true,n)else(false,c)),(st.bC a).length)
theorem Fb{st:dj}{first:Bool}{c:Nat}{i:Nat}(h:(st.bC a).findIdx? (fun d=>decide (d=b))=some i):Cc n b st first c a=(st,i):=by unfold Cc;exact Z h rfl
theorem Fe{st:dj}{first:Bool}{c:Nat}(h:(st.bC a).findIdx? (fun d=>decide (d=b))=none):Cc n b st first c a=(st.add a b (if first then(true,n)else(false,c)),(st.bC a).length):=by unfold Cc;exact Z h rfl
noncomputable def Ew(n:Nat)(b:BK):dj->Bool->Nat->List Addr->dj
 |st,_,_,[]=>st
 |st,first,c,a::d=>Ew n b (Cc n b st first c a).1 false (Cc n b st first c a).2 d
def TupIs(H:U)(x:V)(M:List V):Prop:=∃p,x=.ref p/\H p=some (.tup M)
theorem TupIs.keep{x:V}(h:TupIs H x M)(t:lC H I):TupIs I x M:=h.imp fun p h=>⟨h.1,t _ _ h.2⟩
def Hk(ES:List (List T))(b:BK):Prop:=∃w a,w::a∈ES/\b∈w.keys
noncomputable def XP(p:Bool×Nat):List V:=[.bool p.1,.int p.2]
end
structure cz(H:U)(L:Loc)(D:cD)(ES:List (List T))(st:dj)(n:Nat):Prop where
 d:∀v vs,v::vs∈ES->v.aK=true->D.lst v.aq .aP=(st.bC v.aq).map fun b=>.ref (L.bd b)
 t:∀v vs,v::vs∈ES->v.aK=true->bw (fun x p=>TupIs H x (XP p)) (D.lst v.aq .aJ) (st.fG v.aq)
 key:∀v vs,v::vs∈ES->v.aK=true->∀b∈st.bC v.aq,Hk ES b
 ln:∀v vs,v::vs∈ES->v.aK=true->(st.bC v.aq).length<=n/\(st.fG v.aq).length<=n
structure jU(D D':cD):Prop where
 cap:D'.cap=D.cap
 aQ:D'.aQ=D.aQ
 nl:D'.nl=D.nl
 nc:D'.nc=D.nc
 lst:∀a j,j≠.aP->j≠.aJ->D'.lst a j=D.lst a j
section
variable{k:fW}{H0 H I:U}{L:Loc}{D:cD}{ES:List (List T)}{uL:Addr}{uV:List V}{US:List (List T×String)}{X:Cx}{d:Nat}{G:String->V}
variable{a:Addr}{M:List V}
theorem No{j:At}:(D.cA a j M).lst a j=M:=if_pos ⟨rfl,rfl⟩
theorem JA{b:Addr}{i j:At}(h:b≠a):(D.cA a j M).lst b i=D.lst b i:=if_neg fun z=>h z.1
theorem GG{b:Addr}{i j:At}(h:i≠j):(D.cA a j M).lst b i=D.lst b i:=if_neg fun z=>h z.2
variable{n:Nat}
theorem cz.keep{st:dj}(h:cz H L D ES st n)(t:lC H I):cz I L D ES st n:=⟨h.d,fun v c m f=>(h.t v c m f).mono fun a b y z=>z.keep t,h.key,h.ln⟩
theorem cz.more{st:dj}(h:cz H L D ES st n):cz H L D ES st (n+1):=⟨h.d,h.t,h.key,fun v a m f=>⟨dS (h.ln v a m f).1,dS (h.ln v a m f).2⟩⟩
variable{v:T}{vs:List T}{b:BK}
theorem cz.add{st:dj}(h:cz H L D ES st n)(m:v::vs∈ES)(i:v.aK=true)(s:Hk ES b){x:V}{p:Bool×Nat}(t:lC H I)(u:TupIs I x (XP p)):
  cz I L ((D.cA v.aq .aP ((st.bC v.aq).map (fun b=>.ref (L.bd b))++[.ref (L.bd b)])).cA v.aq .aJ (D.lst v.aq .aJ++[x])) ES (st.add v.aq b p) (n+1):=by
 have j:(st.add v.aq b p).bC v.aq=st.bC v.aq++[b]:=if_pos rfl;have o:(st.add v.aq b p).fG v.aq=st.fG v.aq++[p]:=if_pos rfl;have k:∀{a},a≠v.aq->(st.add v.aq b p).bC a=st.bC a:=fun h=>if_neg h;have r:∀{a},a≠v.aq->(st.add v.aq b p).fG a=st.fG a:=fun h=>if_neg h;refine⟨fun w e f g=>?_,fun w e f g=>?_,fun w e f g=>?_,fun w e f g=>?_⟩
 ·refine Z (GG (dd rfl)) ?_;by_cases c:w.aq=v.aq
  ·refine Z c (Z No (Z j (Z bP ?_)));rfl
  ·refine Z (JA c) (Z (k c) ?_);exact h.d w e f g
 ·by_cases c:w.aq=v.aq
  ·refine Z c (Z No (Z o ?_));exact((h.t v vs m i).mono fun a b d z=>z.keep t).app ⟨u,trivial⟩
  ·refine Z (JA c) (Z (JA c) (Z (r c) ?_));exact(h.t w e f g).mono fun a b d z=>z.keep t
 ·by_cases c:w.aq=v.aq
  ·refine Z c (Z j ?_);exact fun y l=>(bX.mp l).elim (h.key v vs m i y) fun q=>by refine Z (al.mp q) ?_;exact s
  ·refine Z (k c) ?_;exact h.key w e f g
 ·by_cases c:w.aq=v.aq
  ·refine Z c (Z j (Z o (Z ba (Z ba ?_))));exact⟨cv (h.ln v vs m i).1,cv (h.ln v vs m i).2⟩
  ·refine Z (k c) (Z (r c) ?_);exact⟨dS (h.ln w e f g).1,dS (h.ln w e f g).2⟩
theorem Y5(h:St k H0 H L D ES){cm:Addr->Bool}{c:BK}(d:Hk ES b)(a:Hk ES c):Bv cm H .Is (.ref (L.bd b)) (.ref (L.bd c))=some (decide (b=c)):=AQ d fun w g m d=>AQ a fun i e f a=>Zq h m d f a cm
noncomputable def yZ:Option Nat->V
 |some i=>.int i
 |none=>.int (-1)
theorem findIdx?_none_take{a:Type}{p:a->Bool}{l:List a}{j:Nat}{x:a}(h:(l.take j).findIdx? p=none)(c:l[j]?=some x)(d:p x=false):(l.take (j+1)).findIdx? p=none:=by
 rw[gz]at h ⊢;refine Z (AK c) ?_;exact fun y b=>(bX.mp b).elim (h y) fun b=>by refine Z (al.mp b) ?_;exact d
theorem findIdx?_hit{a:Type}{p:a->Bool}{l:List a}{j:Nat}{x:a}(h:(l.take j).findIdx? p=none)(d:l[j]?=some x)(f:p x=true):l.findIdx? p=some j:=by
 rw[gz]at h;refine AA (av.mp d) fun b e=>ib.mpr ⟨b,by refine Z e ?_;exact f,fun i c=>?_⟩;have:=h (l[i]'(ee c b)) (List.mem_take_iff_getElem.mpr ⟨i,Nat.lt_min.mpr ⟨c,ee c b⟩,rfl⟩);exact Z this ax
inductive VI(H:U)(L:Loc)(l:Addr)(b:BK)(bs:List BK)(j:Nat)(aaa:U)(m:List V):Prop where
 |mk (a b':V):aaa=H->m=[.ref l,.ref (L.bd b),a,b',.aa]->(bs.take j).findIdx? (fun b'=>decide (b'=b))=none->VI H L l b bs j aaa m
variable{bs:List BK}{Q:V->U->Prop}
theorem MR(c:Code X G k)(h:St k H0 H L D ES){l:Addr}(e:H l=some (.list (bs.map fun b=>.ref (L.bd b))))(t:Hk ES b)(p:∀b∈bs,Hk ES b)
  (q:Q (yZ (bs.findIdx? fun r=>decide (r=b))) H):aG X (d+1) H (G "index_among") [.ref l,.ref (L.bd b)] Q:=by
 refine c.ie.call rfl (Lz (Aa rfl rfl) e (AW (VI H L l b bs) ?_ ?_ ⟨_,_,rfl,rfl,rfl⟩))
 ·rintro j x i m u ⟨a,r,rfl,rfl,f⟩;refine Ad (CU u) fun v g s=>?_;subst s;refine⟨e,_,rfl,fun K w y=>?_⟩;have n:=Y5 h (cm:=X.cm) (p _ (ay g)) t;by_cases o:v=b
  ·rw[decide_eq_true o]at n;rw[findIdx?_hit f g (decide_eq_true o)]at q;exact Dt (aB (Aa rfl rfl) (Aa rfl rfl) n) (A9 (Aa rfl rfl) (y _ _ _ q))
  ·rw[decide_eq_false o]at n;exact BJ (aB (Aa rfl rfl) (Aa rfl rfl) n) (w _ _ ⟨_,_,rfl,rfl,findIdx?_none_take f g (decide_eq_false o)⟩)
 ·rintro i m ⟨a,r,rfl,rfl,f⟩;rw[ac,dp]at f;rw[f]at q;exact⟨e,jQ (A9 (Aan Af) q)⟩
def jR(L:Loc)(ES:List (List T))(H I:U):Prop:=∀a o,(∀v b,v::b∈ES->v.aK=true->a≠L.ls v.aq .aP/\a≠L.ls v.aq .aJ)->(∀C f,o≠.inst C f)->H a=some o->I a=some o
theorem jR.refl(H:U):jR L ES H H:=fun z z z z e=>e
theorem jR.trans{H'':U}(h:jR L ES H I)(b:jR L ES I H''):jR L ES H H'':=fun a o n m e=>b a o n m (h a o n m e)
theorem aD.kpc(h:aD H I):jR L ES H I:=fun a o z z e=>h a o e
theorem jR.rZ(h:jR L ES H I)(m:v::vs∈ES)(b:v.aK=true){o:bI}:jR L ES H (I.set (L.ls v.aq .aP) o):=fun a o n c e=>by
 exact Z (U.aC _ _ (n v vs m b).1) (h a o n c e)
theorem jR.rH(h:jR L ES H I)(m:v::vs∈ES)(b:v.aK=true){o:bI}:jR L ES H (I.set (L.ls v.aq .aJ) o):=fun a o n c e=>by
 exact Z (U.aC _ _ (n v vs m b).2) (h a o n c e)
variable{N:Nat}
theorem Xn(c:Code X G k)(h1:Ph k H0 H L D ES uL uV US){s:String}(hb:Hk ES b)(hpc:D.aQ b=some (s,n)){pl:Addr}{pv:List V}(hp:H pl=some (.list pv))(m:v::vs∈ES)(hf:v.aK=true)
  (hplo:∀j∈aY,L.ls v.aq j≠pl) {st:dj} (hC:cz H L D ES st N) (hN:N<=500000) {first:Bool} {ah:Nat} {x3 b5:V} (hah:first=false->x3=.int ah) {Q:bu->U->List V->Prop}
  (q:∀I D',Ph k H0 I L D' ES uL uV US->jU D D'->cz I L D' ES (st.add v.aq b (if first then(true,n)else(false,ah))) (N+1)->jR L ES H I->I pl=some (.list pv)->Q .next I [.ref (L.bd b),.ref pl,.bool first,x3,.ref (L.sc v.aq),.int (st.bC v.aq).length,.aa,.aa,.aa]) :
  Kb X (d+1) G H [.ref (L.bd b),.ref pl,.bool first,x3,.ref (L.sc v.aq),b5,.aa,.aa,.aa] Q:=by
 refine Ad (h1.st.fn v vs m hf) fun f ef zf=>?_;have ld:=h1.st.ls v vs m hf .aP (dd rfl);rw[hC.d v vs m hf]at ld;have hln:=hC.ln v vs m hf;have sl:((st.bC v.aq).map fun b=>V.ref (L.bd b)).length<=1000000:=by refine Z (ac ..) ?_;exact ab hln.1 (ab hN (dd rfl))
 have pd:∀{H b5},H (L.sc v.aq)=some (.inst k.S f)->Pv (Aj X .aP (O 4)) H [.ref (L.bd b),.ref pl,.bool first,x3,.ref (L.sc v.aq),b5,.aa,.aa,.aa] (.ref (L.ls v.aq .aP)):=fun e=>Am (Aa rfl rfl) (c.fS e (zf.lst .aP (dd rfl)) rfl rfl);refine Id (C9 c (pd ef) ld (sz sl)) (NE (pd ef) ld (sz sl) (Aa (v:=.ref (L.bd b)) rfl rfl) (Z (ac ..) ?_));have h2:=h1.cA (M:=(st.bC v.aq).map (fun b=>V.ref (L.bd b))++[.ref (L.bd b)]) m hf (j:=.aP) (dd rfl);have ef2:=AM (x:=.list ((st.bC v.aq).map (fun b=>V.ref (L.bd b))++[.ref (L.bd b)])) ef ld rfl;have lt2:=h2.st.ls v vs m hf .aJ (dd rfl);rw[GG (dd rfl)]at lt2;have tk2:lC H (H.set (L.ls v.aq .aP) (.list ((st.bC v.aq).map (fun b=>V.ref (L.bd b))++[.ref (L.bd b)]))):=lC.set ld fun z=>Bu rfl;have kp2:=(jR.refl (L:=L) (ES:=ES) H).rZ (o:=.list ((st.bC v.aq).map (fun b=>V.ref (L.bd b))++[.ref (L.bd b)])) m hf;have hp2:(H.set (L.ls v.aq .aP) (.list ((st.bC v.aq).map (fun b=>V.ref (L.bd b))++[.ref (L.bd b)]))) pl=some (.list pv):=by refine Z (U.aC _ _ (hplo _ (dd rfl)).symm) ?_;exact hp
 have lt0:(D.lst v.aq .aJ).length<=1000000:=Z ((hC.t v vs m hf).length) (ab hln.2 (ab hN (dd rfl)));have key:∀p:Addr,(H.set (L.ls v.aq .aP) (.list ((st.bC v.aq).map (fun b=>V.ref (L.bd b))++[.ref (L.bd b)]))) p=none ->
   Calls X (d+1) ((H.set (L.ls v.aq .aP) (.list ((st.bC v.aq).map (fun b=>V.ref (L.bd b))++[.ref (L.bd b)]))).set p (.tup (XP (if first then(true,n)else(false,ah))))) (.blt "list.append") [.ref (L.ls v.aq .aJ),.ref p] fun z I=>Q .next I [.ref (L.bd b),.ref pl,.bool first,x3,.ref (L.sc v.aq),.int (st.bC v.aq).length,.aa,.aa,.aa]:=fun p hp'=>
  have lt3:=Ah (o:=.tup (XP (if first then(true,n)else(false,ah)))) hp' lt2
  Bn lt3 (sz lt0) (q _ _ ((h2.ext (aD.set hp')).cA m hf (j:=.aJ) (dd rfl)) ⟨rfl,rfl,rfl,rfl,fun a i n1 n2=>(GG n2).trans (GG n1)⟩
   (hC.add m hf hb ((tk2.trans (aD.set hp').tps).trans (lC.set lt3 fun z=>Bu rfl)) ⟨p,rfl,AM (U.ak ..) lt3 rfl⟩) ((kp2.trans (aD.set hp').kpc).rH m hf) (Z (U.aC _ _ (hplo _ (dd rfl)).symm) (Ah hp' hp2)))
 refine Rk (Am (Aa (v:=.ref (L.sc v.aq)) rfl rfl) (c.fS ef2 (zf.lst .aJ (dd rfl)) rfl rfl)) lt2 ?_;cases first with
 |true=>
  exact AQ hb fun w Y mw hbw=>Ad (h2.st.bd w Y mw b hbw) fun g eg zg=>Ad (hpc▸zg.aQ:cC _ (g .place) (some (s,n))) fun tp etp htp=>Ev (AJ (Aa rfl rfl)) (bV (AD Af (GP (Am (Aa (v:=.ref (L.bd b)) rfl rfl) (c.fB eg etp rfl rfl)) htp rfl rfl)) (dd rfl:2<=aT) key)
 |false=>exact Es (AJ (Aa rfl rfl)) (bV (AD Af (Aa (v:=.int ah) (hah rfl) rfl)) (dd rfl:2<=aT) key)
theorem jU.trans{D' D'':cD}(h:jU D D')(b:jU D' D''):jU D D'':=⟨b.cap.trans h.cap,b.aQ.trans h.aQ,b.nl.trans h.nl,b.nc.trans h.nc,fun a j c d=>(b.lst a j c d).trans (h.lst a j c d)⟩
inductive Wo(k:fW)(H0 H:U)(L:Loc)(D:cD)(ES:List (List T))(uL:Addr)(uV:List V)(US:List (List T×String))(b:BK)(n:Nat)(pl:Addr)(ps:List Addr)(st:dj)(N j:Nat)(aaa:U)(m:List V):Prop where
 |mk:∀(D':cD) (st':dj) (first:Bool) (ah:Nat) (b3 b4 b5:V),(m=[.ref (L.bd b),.ref pl,.bool first,b3,b4,b5,.aa,.aa,.aa])->(first=false->b3=.int ah)->(Ph k H0 aaa L D' ES uL uV US)->jU D D'->(cz aaa L D' ES st' (N+j))->(Ew n b st' first ah (ps.reverse.drop j)=Ew n b st true 0 ps.reverse)->(jR L ES H aaa)->(aaa pl=some (.list (ps.map fun a=>.ref (L.sc a))))->Wo k H0 H L D ES uL uV US b n pl ps st N j aaa m
variable{ps:List Addr}
theorem Ui(c:Code X G k)(h:Ph k H0 H L D ES uL uV US){s:String}(Ab:Hk ES b)(H':D.aQ b=some (s,n)){E:Addr}(P:H E=some (.list (ps.map fun a=>.ref (L.sc a))))(ad:∀a∈ps,∃v vs,v::vs∈ES/\v.aK=true/\v.aq=a)
  (w:∀v vs,v::vs∈ES->v.aK=true->∀j∈aY,L.ls v.aq j≠E) {st:dj} (aj:cz H L D ES st N) (W:N+ps.length<=500000) 
  (q:∀I D',Ph k H0 I L D' ES uL uV US->jU D D'->cz I L D' ES (Ew n b st true 0 ps.reverse) (N+ps.length)->jR L ES H I->Q .none I) :
  aG X (d+2) H (G "capture") [.ref (L.bd b),.ref E] Q:=by
 refine c.j6.call rfl (Id Af (Id Af (PC (Aa rfl rfl) (.inl ⟨P,(Z (ap me) (AW (Wo k H0 H L D ES uL uV US b n E ps st N) ?_ ?_ ⟨D,st,true,0,_,_,_,rfl,bU∘ap,h,⟨rfl,rfl,rfl,rfl,fun Y Y Y Y=>rfl⟩,aj,rfl,jR.refl H,P⟩))⟩))))
 ·rintro j x r m ws ⟨D',l,first,y,rL,b4,b5,rfl,z,t,A,g,e,p,o⟩;refine Ad (CU ws) fun a F xs=>?_;subst xs;refine⟨o,_,rfl,fun K R Y=>?_⟩;have S:=(av.mp F).1;rw[da]at S;refine Ay (ad a (ky.mp (ay F))) fun v vs m u ea=>?_;rw[<-ea]at F ⊢;rw[Mi F]at e;refine Ad (t.st.fn v vs m u) fun f ef zf=>?_;have T:=t.st.ls v vs m u .aP (dd rfl);rw[g.d v vs m u]at T;refine AL (Ao (AD (Am (Aa rfl rfl) (c.fS ef (zf.lst .aP (dd rfl)) rfl rfl)) (Aa rfl rfl)) (MR c t.st T Ab (g.key v vs m u) ?_) (ai _));cases AH:(l.bC v.aq).findIdx? (fun b'=>decide (b'=b))with
  |some i=>
   have B:Ew n b (Cc n b l first y v.aq).1 false (Cc n b l first y v.aq).2 (ps.reverse.drop (j+1))=_:=e;rw[Fb AH]at B;exact Bs (aB (Aa rfl rfl) Af (congrArg some (decide_eq_false (Int.not_lt.mpr (ge i))))) (Id Af (SS (Aa rfl rfl) (R _ _ ⟨D',l,false,i,_,_,_,rfl,fun Y=>rfl,t,A,g.more,B,p,o⟩)))
  |none=>
   have B:Ew n b (Cc n b l first y v.aq).1 false (Cc n b l first y v.aq).2 (ps.reverse.drop (j+1))=_:=e;rw[Fe AH]at B;exact EU (aB (Aa rfl rfl) Af rfl) (ZD (Xn c t Ab (A.aQ▸H') o m u (w v vs m u) g (ab (br (dk S) N) W) z fun I C g1 g2 g3 g4 g5=>jQ (Id Af (SS (Aa rfl rfl) (R _ _ ⟨C,_,false,_,_,_,_,rfl,fun Y=>rfl,g1,A.trans g2,g3,B,p.trans g4,g5⟩)))))
 ·rintro r m ⟨D',l,first,y,rL,b4,b5,rfl,z,t,A,g,e,p,o⟩;rw[ac]at e g;rw[List.drop_length]at e;rw[da]at g;rw[show l=_ from e]at g;exact⟨o,q r D' t A g p⟩
noncomputable def CK(a:BK->Bool)(bs:List BK)(b:BK):Option (String×Nat):=(bs.findIdx? fun c=>decide (c=b)).map fun i=>(if a b then "cell" else "local",(bs.take i).countP fun x=>a x==a b)
theorem OL(h:b∉bs):bs.findIdx? (fun a=>decide (a=b))=none:=List.findIdx?_eq_none_iff.mpr fun y c=>decide_eq_false fun z=>h (z▸c)
theorem Qj(h:b∉bs):(bs++[b]).findIdx? (fun a=>decide (a=b))=some bs.length:=Z (td) (Z (OL h) (Z (tP) (Z (if_pos (decide_eq_true rfl)) (congrArg some (df _)))))
theorem Kr{c:List BK}(h:b∈bs):(bs++c).findIdx? (fun a=>decide (a=b))=bs.findIdx? (fun a=>decide (a=b)):=by
 refine Z (td) ?_;cases e:bs.findIdx? (fun a=>decide (a=b))with
 |none=>exact absurd rfl (of_decide_eq_false (gz.mp e b h))|some i=>rfl
theorem P1{a:BK->Bool}{c:List BK}(h:b∈bs):CK a (bs++c) b=CK a bs b:=by
 unfold CK;refine Z (Kr h) ?_;cases e:bs.findIdx? (fun d=>decide (d=b))with
 |none=>rfl|some i=>exact Z (gv ..) (Z (gv ..) (Z (List.take_append_of_le_length (dk (ib.mp e).1)) rfl))
structure Given(D D':cD)(a:Addr)(bs:List BK):Prop where
 cap:D'.cap=D.cap
 lst:D'.lst=D.lst
 aQ:∀b∈bs,D'.aQ b=CK D.cap bs b
 off:∀b,b∉bs->D'.aQ b=D.aQ b
 nc:D'.nc a=D.nc a+bs.countP D.cap
 nl:D'.nl a=D.nl a+bs.countP (fun b=>!D.cap b)
 oth:∀a',a'≠a->D'.nc a'=D.nc a'/\D'.nl a'=D.nl a'
theorem PM{a:BK->Bool}(h:b∉bs):CK a (bs++[b]) b=some (if a b then "cell" else "local",bs.countP fun x=>a x==a b):=by
 unfold CK;exact Z (Qj h) (Z (gv ..) (Z List.take_left rfl))
theorem Px(D:cD)(a:Addr)(b b':BK):(D.give a b).aQ b'=if b'=b then some (if D.cap b then "cell" else "local",if D.cap b then D.nc a else D.nl a)else D.aQ b':=by
 cases h:D.cap b with
 |true=>refine Z (Hp h ..) ?_;rfl
 |false=>refine Z (HK h ..) ?_;rfl
theorem XO(D:cD)(a:Addr)(b:BK):(D.give a b).nc a=D.nc a+[b].countP D.cap:=by
 refine Z sM ?_;cases h:D.cap b with
 |true=>refine Z (Hp h ..) ?_;exact if_pos rfl
 |false=>refine Z (HK h ..) ?_;rfl
theorem XI(D:cD)(a:Addr)(b:BK):(D.give a b).nl a=D.nl a+[b].countP fun b=>!D.cap b:=by
 refine Z sM ?_;cases h:D.cap b with
 |true=>refine Z (Hp h ..) ?_;rfl
 |false=>refine Z (HK h ..) ?_;exact if_pos rfl
theorem Py(D:cD){a':Addr}(b:BK)(n:a'≠a):(D.give a b).nc a'=D.nc a'/\(D.give a b).nl a'=D.nl a':=by
 cases h:D.cap b with
 |true=>refine Z (Hp h ..) ?_;exact⟨if_neg n,rfl⟩
 |false=>refine Z (HK h ..) ?_;exact⟨rfl,if_neg n⟩
theorem Given.snoc{D1:cD}(H':Given D D1 a bs)(h1:D.nc a=0)(h2:D.nl a=0)(hb:b∉bs):Given D (D1.give a b) a (bs++[b]):=by
 refine⟨(UV ..).trans H'.cap,(P7 ..).trans H'.lst,fun b' m=>?_,fun b' m=>?_,?_,?_,fun a' n=>⟨(Py D1 b n).1.trans (H'.oth a' n).1,(Py D1 b n).2.trans (H'.oth a' n).2⟩⟩
 ·refine Z (Px ..) ?_;by_cases e:b'=b
  ·refine Z e (Z (if_pos rfl) (Z (PM hb) (Z H'.cap (Z H'.nc (Z H'.nl (Z h1 (Z h2 (Z (df ..) (Z (df ..) ?_)))))))));cases hc:D.cap b with
   |true=>exact congrArg (fun f:BK->Bool=>some ("cell",bs.countP f)) (funext fun x=>(beq_true _).symm)|false=>exact congrArg (fun f:BK->Bool=>some ("local",bs.countP f)) (funext fun x=>(beq_false _).symm)
  ·have m':=(bX.mp m).elim id fun z=>absurd (al.mp z) e;exact Z (if_neg e) (Z (H'.aQ b' m') (Z (P1 m') rfl))
 ·exact Z (Px ..) (Z (if_neg fun z=>m (cS _ (al.mpr z))) (H'.off b' fun z=>m (cq _ z)))
 ·exact Z (XO ..) (Z H'.nc (Z H'.cap (Z tS (Z (dn ..) rfl))))
 ·exact Z (XI ..) (Z H'.nl (Z H'.cap (Z tS (Z (dn ..) rfl))))
theorem Aco(D:cD)(a:Addr)(f:D.nc a=0)(g:D.nl a=0):∀(n:Nat) (bs:List BK),bs.length=n->bs.Nodup->Given D (EH D a bs) a bs:=by
 intro n;induction n with
 |zero=>
  intro bs c _;exact Z (gg.mp c) ⟨rfl,rfl,fun b i=>absurd i am,fun b z=>rfl,rfl,rfl,fun z z=>⟨rfl,rfl⟩⟩
 |succ n j=>
  intro bs c d;rcases nh bs with h|⟨e,b,h⟩
  ·rw[h]at c;exact absurd c.symm (kc n)
  rw[h,ny]at c d ⊢;rw[ba]at c;have d:=eM.mp d;exact Z (Fj ..) ((j e (h9 c) d.1).snoc f g fun m=>d.2.2 b m b (al.mpr rfl) rfl)
theorem PS(v:T):v.names.Nodup:=by
 cases v with
 |func a e c b s d=>exact LS c b|tr a b x h=>exact cr.mpr ⟨am,d0⟩|_=>exact d0
theorem GN(h:b∈HX US v):b.sort=.self/\b.node=v.aq/\v.bM=some b.name/\Be v.aq b.name US=true:=by
 cases e:v.bM with
 |none=>rw[DR e]at h;exact absurd h am
 |some y=>
  rw[DB e]at h;cases a:Be v.aq y US with
  |true=>rw[a]at h;exact Z (al.mp h) ⟨rfl,rfl,rfl,a⟩
  |false=>rw[a]at h;exact absurd h am
theorem Le(h:iu H0 L ES){w:T}{Y:List T}(m:w::Y∈ES)(d:w.aK=false):BN (w::Y)∈w.keys/\(BN (w::Y)).sort=.cat/\(BN (w::Y)).node=w.aq/\w.keys=[BN (w::Y)]:=by
 have c:=(h.knd w Y m).elim (fun z=>bU (d.symm.trans z)) id;cases w with
 |tr a b x e=>exact⟨al.mpr rfl,rfl,rfl,rfl⟩|_=>exact bU c
theorem gP :b∈bG US ES v↔(b.sort=.own/\b.node=v.aq/\b.name∈v.names)\/b∈HX US v\/∃c∈CV ES v.aq,BN c=b:=by
 unfold bG;refine Z (propext bX) (Z (propext bX) (Z (propext bn) (Z (propext bn) (Z (propext or_assoc) (or_congr ⟨fun d=>Ad d fun y f e=>e▸⟨rfl,rfl,f⟩,fun h=>?_⟩ Iff.rfl)))));obtain⟨s,a,y⟩:=b;exact⟨y,h.2.2,by exact Z (show s=.own from h.1) (Z (show a=v.aq from h.2.1) rfl)⟩
variable{c:List T}
theorem Gr(h:iu H0 L ES)(f:c∈CV ES v.aq):c∈ES/\(BN c).sort=.cat/\∃w Y,c=w::Y/\(BN c).node=w.aq/\gY c=v.aq/\w.keys=[BN c]:=by
 refine aV (Pg f) fun b g=>Ay g fun w Y e a d=>?_;rw[e]at b ⊢;have q:=Le h b a;exact⟨b,q.2.1,w,Y,rfl,q.2.2.1,(Jr a).trans d,q.2.2.2⟩
theorem Sw(h:iu H0 L ES){w:T}{c':List T}(g:c∈CV ES v.aq)(b:c'∈CV ES w.aq)(e:BN c=BN c'):c=c':=by
 refine Gz (Gr h g) fun f z x d=>Az d fun m i j z=>Gz (Gr h b) fun a z y d=>Az d fun n k l z=>?_;rw[i]at f ⊢;rw[k]at a ⊢;exact h.jf _ _ _ _ f a (Z (ap j) (Z e (Z l rfl)))
theorem Tl(h:iu H0 L ES)(m:v::vs∈ES)(d:v.aK=true)(f:b∈bG US ES v):Hk ES b:=by
 rcases gP.mp f with⟨a,g,i⟩|a|⟨c,j,e⟩
 ·exact⟨v,vs,m,dZ.mpr (.inl ⟨g,i,a.trans (if_pos d).symm⟩)⟩
 ·have q:=GN a;exact⟨v,vs,m,dZ.mpr (.inr ⟨q.2.1,q.2.2.1,q.1⟩)⟩
 ·obtain⟨k,_,w,l,n,_,_,o⟩:=Gr h j;exact⟨w,l,n▸k,by refine Z o (Z e ?_);exact al.mpr rfl⟩
theorem Qa(h:iu H0 L ES)(k:ES.Nodup)(v:T):(bG US ES v).Nodup:=by
 unfold bG;refine eM.mpr ⟨eM.mpr ⟨?_,?_,?_⟩,?_,?_⟩
 ·exact i9.mpr ((PS v).imp fun f z=>f (congrArg BK.name z))
 ·cases e:v.bM with
  |none=>refine Z (DR e) ?_;exact d0
  |some y=>
   refine Z (DB e) ?_;cases n:Be v.aq y US with
   |true=>exact cr.mpr ⟨am,d0⟩|false=>exact d0
 ·intro a d b g e;refine Ad (bn.mp d) fun y x j=>?_;have q:=(GN g).1;rw[<-e,<-j]at q;exact absurd q BS.noConfusion
 ·refine i9.mpr ((k.sublist (k6 ..)).imp_of_mem fun{a b} d g f e=>f (Sw h d g e))
 ·intro a d b g e;refine Ad (bn.mp g) fun c l m=>?_;have i:=(Gr h l).2.1;rw[m,<-e]at i;rcases bX.mp d with d|d
  ·refine Ad (bn.mp d) fun y x j=>?_;rw[<-j]at i;exact absurd i BS.noConfusion
  ·exact absurd ((GN d).1.symm.trans i) BS.noConfusion
theorem Mf(h:iu H0 L ES)(d:b∈bG US ES v):(b.sort≠.cat/\b.node=v.aq)\/∃c∈CV ES v.aq,BN c=b:=by
 rcases gP.mp d with⟨a,e,_⟩|a|a
 ·exact .inl ⟨fun z=>absurd (a.symm.trans z) BS.noConfusion,e⟩
 ·have q:=GN a;exact .inl ⟨fun z=>absurd (q.1.symm.trans z) BS.noConfusion,q.2.1⟩
 ·exact .inr a
theorem LB(h:iu H0 L ES){w:T}(i:b∈bG US ES v)(g:b∈bG US ES w):v.aq=w.aq:=by
 rcases Mf h i with⟨j,f⟩|⟨c,a,f⟩
 ·rcases Mf h g with⟨_,d⟩|⟨c,a,d⟩
  ·exact f.symm.trans d
  ·exact absurd (d▸(Gr h a).2.1) j
 ·rcases Mf h g with⟨k,_⟩|⟨n,e,d⟩
  ·exact absurd (f▸(Gr h a).2.1) k
  ·obtain⟨_,_,_,_,_,_,l,_⟩:=Gr h a;obtain⟨_,_,_,_,_,_,m,_⟩:=Gr h e;exact Z (ap l) (Z (ap m) (Z (Sw h a e (f.trans d.symm)) rfl))
def v9(ES:List (List T))(a c:Addr):Prop:=∃v b,v::b∈ES/\v.aK=true/\v.aq=a/\b≠[]/\gY b=c
def bf(ES:List (List T))(ps:List Addr):Addr->Addr->Prop:=fq (fun a o=>a=o) (fun p z c a o=>p=a/\∃b,v9 ES p b/\c b o) ps
inductive Sz(ES:List (List T))(v:T)(b:BK):Prop where
 |own:b.sort=.own->b.node=v.aq->b.name∈v.names->Sz ES v b
 |self:b.sort=.self->b.node=v.aq->v.bM=some b.name->Sz ES v b
 |cat (c:List T):c∈CV ES v.aq->BN c=b->Sz ES v b
variable{x:String}
theorem IM(h:iu H0 L ES)(p:Ba ES):c∈ES->(Ak c x).1=some b->∃v vs,v::vs∈ES/\v.aK=true/\bf ES (Ak c x).2 (gY c) v.aq/\Sz ES v b/\b.name=x:=by
 induction c with
 |nil=>exact fun m=>absurd m h.ne
 |cons w j r=>
  intro m e;cases d:DT w x with
  |some t=>
   rw[Bx d]at e ⊢;refine Z (ap (ag e)) ?_;by_cases g:x∈w.names
   ·rw[B8 g]at d;refine Z (ap (ag d)) ?_;cases a:w.aK with
    |true=>exact⟨w,j,m,a,Gl a,.own rfl rfl g,rfl⟩|false=>
     refine Ay (KP h p m) fun v vs l f i=>?_;have n:=Pd a g;rw[(Le h m a).2.2.2]at n;exact⟨v,vs,l,f,i.symm,.cat (w::j) (fy.mpr ⟨m,(be _ _).mpr ⟨congrArg not a,beq_iff_eq.mpr ((Jr a).symm.trans i.symm)⟩⟩) (al.mp n).symm,rfl⟩
   ·by_cases k:w.bM=some x
    ·rw[Cz g k]at d;refine Z (ap (ag d)) ?_;have a:w.aK=true:=by
      cases w with
      |func=>rfl|_=>exact gU k
     exact⟨w,j,m,a,Gl a,.self rfl rfl k,rfl⟩
    ·rw[Bp g k]at d;exact gU d
  |none=>
   rw[B4 d]at e ⊢;cases j with
   |nil=>exact gU e|cons u s=>
    refine AN (r (h.lY _ _ _ m) e) fun v vs l f o q=>⟨v,vs,l,f,?_,q⟩
    cases a:w.aK with
    |true=>refine Z (Gl a) ?_;exact⟨rfl,_,⟨w,u::s,m,a,rfl,dP _ _,rfl⟩,o⟩
    |false=>refine Z (Jr a) ?_;exact o
variable{u:List T×String}
theorem EA(h:iu H0 L ES)(k:Ba ES)(l:u∈US)(m:u.1∈ES)(e:(Ak u.1 u.2).1=some b):∃v vs,v::vs∈ES/\v.aK=true/\bf ES (Ak u.1 u.2).2 (gY u.1) v.aq/\b∈bG US ES v:=by
 refine DA (IM h k m e) fun v vs n f o p q=>⟨v,vs,n,f,o,gP.mpr ?_⟩
 cases p with
 |own a d g=>exact .inl ⟨a,d,g⟩|self a d g=>
  have j:b=⟨.self,v.aq,b.name⟩:=by exact Z (ap a) (Z (ap d) rfl)
  have i:Be v.aq b.name US=true:=fe.mpr ⟨u,l,(be _ _).mpr ⟨decide_eq_true q.symm,decide_eq_true (e.trans (congrArg some j))⟩⟩;exact .inr (.inl (Z (DB g) (Z (if_pos i) (Z (ap j) (al.mpr rfl)))))
 |cat c a d=>exact .inr (.inr ⟨c,a,d⟩)
theorem bf.mem{o:Addr}:∀{a:Addr},bf ES ps a o->∀p∈ps,∃v vs,v::vs∈ES/\v.aK=true/\v.aq=p:=by
 induction ps with
 |nil=>exact fun z p b=>absurd b am
 |cons q ps c=>
  intro a h p b;obtain⟨_,g,⟨v,vs,m,d,f,_⟩,h⟩:=h;rcases bg.mp b with e|b
  ·exact⟨v,vs,m,d,f.trans e.symm⟩
  ·exact c h p b
noncomputable def F6(aQ:BK->Option (String×Nat))(b:BK):Nat:=gL (aQ b) 0 fun q=>q.2
def Cj(aQ:BK->Option (String×Nat))(st:dj)(u:List T×String):dj:=gL (Ak u.1 u.2).1 st fun b=>if(Ak u.1 u.2).2=[]then st else Ew (F6 aQ b) b st true 0 (Ak u.1 u.2).2.reverse
theorem Km{aQ:BK->Option (String×Nat)}{st:dj}(h:(Ak u.1 u.2).1=none):Cj aQ st u=st:=by unfold Cj;exact Z h rfl
theorem Lb{aQ:BK->Option (String×Nat)}{st:dj}(h:(Ak u.1 u.2).2=[]):Cj aQ st u=st:=by
 unfold Cj;cases(Ak u.1 u.2).1 with
 |none=>rfl|some b=>exact if_pos h
theorem NW{aQ:BK->Option (String×Nat)}{st:dj}(h:(Ak u.1 u.2).1=some b)(n:(Ak u.1 u.2).2≠[]):Cj aQ st u=Ew (F6 aQ b) b st true 0 (Ak u.1 u.2).2.reverse:=by unfold Cj;exact Z h (if_neg n)
theorem cz.le{st:dj}{n':Nat}(h:cz H L D ES st n)(l:n<=n'):cz H L D ES st n':=⟨h.d,h.t,h.key,fun v a m f=>⟨ab (h.ln v a m f).1 l,ab (h.ln v a m f).2 l⟩⟩
noncomputable def Kz:dj:=⟨fun z=>[],fun z=>[]⟩
def Ch(aQ:BK->Option (String×Nat))(US:List (List T×String)):dj:=US.foldl (Cj aQ) Kz
structure cR(k:fW)(H0 H:U)(L:Loc)(D:cD)(ES:List (List T))(US:List (List T×String)):Prop where
 st:St k H0 H L D ES
 rooted:Ba ES
 base:Base k.N H0 H
 cap:∀b,D.cap b=true↔mk1 US b\/mk2 ES b
 aQ:∀v vs,v::vs∈ES->v.aK=true->∀b∈bG US ES v,D.aQ b=CK D.cap (bG US ES v) b
 cnt:∀v vs,v::vs∈ES->v.aK=true->D.nc v.aq=(bG US ES v).countP D.cap/\D.nl v.aq=(bG US ES v).countP fun b=>!D.cap b
 lst:∀v vs,v::vs∈ES->v.aK=true->∀j∈[At.params,.aM,.aF,.aL,.aN],D.lst v.aq j=Er L ES v j
 pp:∀v vs,v::vs∈ES->v.aK=true->kO H D v (D.lst v.aq .aA)
 iM:∃N,N<=500000/\cz H L D ES (Ch D.aQ US) N
 no:∀b,(∀v vs,v::vs∈ES->v.aK=true->b∉bG US ES v)->D.aQ b=none
theorem kO.keep{pvs:List V}(h:kO H D v pvs)(t:lC H I):kO I D v pvs:=⟨h.all.mono fun a b y z=>z.ext t⟩
theorem Fw{a b:Type}{f:a->b}{l:List a}(h:(l.map f).Nodup):l.Nodup:=(i9.mp h).imp fun h z=>h (congrArg f z)
inductive WG(k:fW)(H0 H:U)(L:Loc)(D:cD)(ES:List (List T))(uL:Addr)(uV:List V)(US:List (List T×String))(a rv uv sv b4:V)(j:Nat)(aaa:U)(m:List V):Prop where
 |mk:∀D' b5 b6 b7 b8,(m=[a,rv,uv,sv,b4,b5,b6,b7,b8,.aa,.aa,.aa,.aa,.aa,.aa,.aa,.aa])->(Ph k H0 aaa L D' ES uL uV US)->jU D D'->(cz aaa L D' ES ((US.take j).foldl (Cj D.aQ) Kz) (j*22))->(jR L ES H aaa)->WG k H0 H L D ES uL uV US a rv uv sv b4 j aaa m
theorem Rz(c:Code X G k)(S:DZ ES US){a ad xs Ab P:V}(h:Ph k H0 H L D ES uL uV US)(hC:cz H L D ES Kz 0)(W:∀v vs,v::vs∈ES->v.aK=true->∀b∈bG US ES v,∃q,D.aQ b=some q){Q:bu->U->List V->Prop}
  (q:∀I D' N ws rL b7 b8,Ph k H0 I L D' ES uL uV US->jU D D'->cz I L D' ES (Ch D.aQ US) N->N<=500000->jR L ES H I->Q .next I [a,ad,xs,Ab,P,ws,rL,b7,b8,.aa,.aa,.aa,.aa,.aa,.aa,.aa,.aa]) :
  forL (Bc [5,6]) (fun H=>H uL=some (.list uV)) (JW X (d+3) G) Q 0 uV H [a,ad,xs,Ab,P,.aa,.aa,.aa,.aa,.aa,.aa,.aa,.aa,.aa,.aa,.aa,.aa]:=by
 refine AW (WG k H0 H L D ES uL uV US a ad xs Ab P) ?_ ?_ ⟨D,_,_,_,_,rfl,h,⟨rfl,rfl,rfl,rfl,fun Z Z Z Z=>rfl⟩,hC,jR.refl H⟩
 ·rintro j x l m hx ⟨D',ws,rL,b7,b8,rfl,e,t,g,R⟩;obtain⟨⟨ch,s⟩,p,hu,ex,hp,T,hum⟩:=R7 e hx;rw[ex];refine⟨e.hu,_,CB hp rfl,fun K hK Z=>?_⟩;cases ch with
  |nil=>exact absurd T h.st.pure.ne|cons v vs=>
  have n:=cv (S.nn v vs T).2;have u:=ab (HH (c:=v::vs) (x:=s)) n;have A:j*22+(Ak (v::vs) s).2.length<=(j+1)*22:=by rw[Nat.succ_mul];exact br (dS u) _
  have hjl:(j+1)*22<=500000:=ab (kP 22 (bv (av.mp hu).1 S.us)) (dd rfl);refine Lg (Ao (AD (Aa rfl rfl) (Aa rfl rfl)) (Dy c e.st T (ab n (dd rfl)) fun B p' r AH hr0 hp' aj=>⟨p',_,rfl,hp',rfl,?_⟩) (dd rfl));have h3:=e.ext AH;have C:=g.keep AH.tps;have E:(US.take (j+1)).foldl (Cj D.aQ) Kz=Cj D.aQ ((US.take j).foldl (Cj D.aQ) Kz) (v::vs,s):=by rw[AK hu,ja];rfl
  have o:Cj D.aQ ((US.take j).foldl (Cj D.aQ) Kz) (v::vs,s)=(US.take j).foldl (Cj D.aQ) Kz->∀x y,K .next B [a,ad,xs,Ab,P,aZ L (v::vs),.str s,x,y,.aa,.aa,.aa,.aa,.aa,.aa,.aa,.aa]:=fun w x y=>
   hK _ _ ⟨D',_,_,_,_,rfl,h3,t,by rw[E,w];exact C.le (kP 22 (ip j)),R.trans AH.kpc⟩
  cases hb:(Ak (v::vs) s).1 with
  |none=>exact BJ (A0 (aB (Aa rfl rfl) Af rfl)) (o (Km hb) _ _)|some b=>
   refine AN (EA e.st.pure e.rooted hum T hb) fun w Y hw F hlc H'=>?_;by_cases i:(Ak (v::vs) s).2=[]
   ·exact BJ (bH (aB (Aa rfl rfl) Af rfl) (A0 (E7 c (Aa rfl rfl) (by rw[i]at aj;exact aj)))) (o (Lb i) _ _)
   ·obtain⟨⟨ks,kn⟩,hq⟩:=W w Y hw F b H';refine Dt (bH (aB (Aa rfl rfl) Af rfl) (DQ (E8 c (Aa rfl rfl) aj (sz (by rw[ac];exact ab u (dd rfl))) fun w=>i (oz.mp w)))) (Gj (Ao (AD (Aa rfl rfl) (Aa rfl rfl))
     (Ui (d:=d+1) c h3 (Tl e.st.pure hw F H') (t.aQ▸hq) aj hlc.mem (fun v vs m f j hj z=>jd ((e.st.ls v vs m f j hj).symm.trans (z▸hr0))) C (ab A hjl) fun aan D'' g1 g2 g3 g4=>hK _ _ ⟨D'',_,_,_,_,rfl,g1,t.trans g2,?_,(R.trans AH.kpc).trans g4⟩) (ai _)))
    rw[E,NW hb i,show F6 D.aQ b=kn by unfold F6;rw[hq]];exact g3.le A
 ·rintro l m ⟨D',ws,rL,b7,b8,rfl,e,t,g,R⟩;rw[h.au.length,dp]at g;exact⟨e.hu,q l D' _ _ _ _ _ e t g (ab (kP 22 S.us) (dd rfl)) R⟩
structure jX(US:List (List T×String))(ES:List (List T))(H:U)(D D':cD)(fs:List (List T)):Prop where
 cap:D'.cap=D.cap
 aQ:∀v vs,v::vs∈fs->∀b∈bG US ES v,D'.aQ b=CK D.cap (bG US ES v) b
 cnt:∀v vs,v::vs∈fs->D'.nc v.aq=(bG US ES v).countP D.cap/\D'.nl v.aq=(bG US ES v).countP fun b=>!D.cap b
 pp:∀v vs,v::vs∈fs->kO H D' v (D'.lst v.aq .aA)
 zero:∀a,(∀v vs,v::vs∈fs->v.aq≠a)->D'.nc a=0/\D'.nl a=0/\D'.lst a .aA=D.lst a .aA
 lst:∀a j,j≠.aA->D'.lst a j=D.lst a j
 no:∀b,(∀v vs,v::vs∈fs->b∉bG US ES v)->D'.aQ b=D.aQ b
theorem jX.snoc{D' d:cD}{k e:U}{q:List (List T)}(H':jX US ES k D D' q)(A:iu H0 L ES)(C:ES.Nodup)(c:∀w Y,w::Y∈q->w.aq≠v.aq){o:List V}(g:PQ (EH D' v.aq (bG US ES v)) d)
  (s:∀a j,¬(a=v.aq/\j=.aA)->d.lst a j=D'.lst a j) (E:d.lst v.aq .aA=o) (F:kO e d v o) (t:lC k e):jX US ES e D d (q++[v::vs]):=by
 have r:=H'.zero v.aq c;have f:=Aco D' v.aq r.1 r.2.1 _ (bG US ES v) rfl (Qa A C v);have p:∀w Y,w::Y∈q->∀b∈bG US ES w,d.aQ b=D'.aQ b:=fun w Y m b h=>by refine Z g.aQ ?_;exact f.off b fun u=>c w Y m (LB A h u)
 refine⟨g.cap.trans (f.cap.trans H'.cap),bz (fun w Y m b h=>(p w Y m b h).trans (H'.aQ w Y m b h)) (fun b h=>?_),bz (fun w Y m=>?_) ?_,bz (fun w Y m=>?_) ?_,fun a B=>?_,fun a i n=>(s a i fun z=>n z.2).trans (H'.lst a i n),fun b h=>by refine Z g.aQ (Z (f.off b (h v vs (cS _ (.head _)))) ?_);exact H'.no b fun w Y m=>h w Y (cq _ m)⟩
 ·exact Z g.aQ (Z (f.aQ b h) (Z H'.cap rfl))
 ·exact Z g.nc (Z g.nl (Z ((f.oth _ (c w Y m)).1) (Z ((f.oth _ (c w Y m)).2) (H'.cnt w Y m))))
 ·exact Z g.nc (Z g.nl (Z f.nc (Z f.nl (Z r.1 (Z r.2.1 (Z H'.cap (Z (df ..) (Z (df ..) ⟨rfl,rfl⟩))))))))
 ·exact Z (s _ _ fun z=>c w Y m z.1) ⟨(H'.pp w Y m).all.mono fun x y G z=>(Z (p w Y m _ (gP.mpr (.inl ⟨rfl,rfl,Mk G⟩))) (z.ext t))⟩
 ·exact Z E F
 ·have l:a≠v.aq:=fun z=>B v vs (cS _ (.head _)) z.symm;exact Z g.nc (Z g.nl (Z ((f.oth a l).1) (Z ((f.oth a l).2) (Z (s a _ fun z=>l z.1) (H'.zero a fun w Y m=>B w Y (cq _ m))))))
inductive Ux(k:fW)(H0:U)(L:Loc)(D:cD)(ES:List (List T))(uL:Addr)(uV:List V)(US:List (List T×String))(a rv sv:V)(sL:Addr)(fs:List (List T))(j:Nat)(aaa:U)(m:List V):Prop where
 |mk:∀D' b4,(m=[a,rv,.ref uL,sv,b4,.aa,.aa,.aa,.aa,.aa,.aa,.aa,.aa,.aa,.aa,.aa,.aa])->(Ph k H0 aaa L D' ES uL uV US)->(jX US ES aaa D D' (fs.take j))->(aaa sL=some (.list (fs.map (aZ L))))->Ux k H0 L D ES uL uV US a rv sv sL fs j aaa m
theorem Tq(c:Code X G k)(S:DZ ES US){a y z:V}{s:Addr}{f:List (List T)}(h:Ph k H0 H L D ES uL uV US)(t:∀c,c∈f↔c∈ES/\Qq c=true)(A:f.Nodup)(W:H s=some (.list (f.map (aZ L))))(B:∀v vs,v::vs∈ES->v.aK=true->∀j∈aY,L.ls v.aq j≠s)(ad:∀a,D.nc a=0/\D.nl a=0)
  (xs:Ko L D ES) (C:∀v vs,v::vs∈ES->v.ps.length<=10000) {Q:bu->U->List V->Prop}
  (q:∀I D' u,Ph k H0 I L D' ES uL uV US->jX US ES I D D' f->Q .next I [a,y,.ref uL,z,u,.aa,.aa,.aa,.aa,.aa,.aa,.aa,.aa,.aa,.aa,.aa,.aa]) :
  forL (AB 4) (fun H=>H s=some (.list (f.map (aZ L)))) (J4 X (d+5) G) Q 0 (f.map (aZ L)) H [a,y,.ref uL,z,.aa,.aa,.aa,.aa,.aa,.aa,.aa,.aa,.aa,.aa,.aa,.aa,.aa]:=by
 refine AW (Ux k H0 L D ES uL uV US a y z s f) ?_ ?_
  ⟨D,_,rfl,h,⟨rfl,fun v vs m=>absurd m am,fun v vs m=>absurd m am,fun v vs m=>absurd m am,fun a Y=>⟨(ad a).1,(ad a).2,rfl⟩,fun Y Y Y=>rfl,fun Y Y=>rfl⟩,W⟩
 ·rintro j x i m ws ⟨D',u,rfl,r,H',g⟩;refine Ad (CU ws) fun N n E=>?_;subst E;refine⟨g,_,rfl,fun K rL Y=>(aV ((t N).mp (ay n)) fun o b=>?_)⟩;cases N with
  |nil=>exact bU b|cons v vs=>
  have b:v.aK=true:=b;have l:∀w Ab,w::Ab∈f.take j->w.aq≠v.aq:=fun w Ab m e=>by
   have P:(f.take (j+1)).Nodup:=A.sublist (List.take_sublist ..);rw[AK n]at P;exact(eM.mp P).2.2 _ m _ (.head _) (r.st.pure.jf _ _ _ _ ((t _).mp (tc m)).1 o e)
  have p:∀j∈aY,D'.lst v.aq j=Er L ES v j:=fun j R=>by
   by_cases e:j=.aA
   ·exact Z e (Z ((H'.zero v.aq l).2.2) (xs v vs o b _ (e▸R)))
   ·exact Z (H'.lst _ _ e) (xs v vs o b j R)
  refine Gj (Ao (AD (Aa rfl rfl) (Aa rfl rfl)) (M7 c S r o b (p .params (dd rfl)) (p .aN (dd rfl)) (p .aA (dd rfl)) (C v vs o) fun AH F pvs g1 g2 g6 g7 g8 aj=>rL _ _ ⟨F,_,rfl,g1,?_,?_⟩) (ai _))
  ·exact Z (AK n) (H'.snoc r.st.pure (Fw S.nd) l g2 g6 g7 g8 fun a M e=>aj a _ (Db e (r.st.ls v vs o b .aA (dd rfl)) rfl) (fun Y Y=>Bu rfl) e)
  ·exact aj s _ (B v vs o b .aA (dd rfl)).symm (fun Y Y=>Bu rfl) g
 ·rintro i m ⟨D',u,rfl,r,H',g⟩;rw[ac,dp]at H';exact⟨g,q i D' u r H'⟩
theorem Xc{e:List (List T)}(h:∀c,c∈e↔c∈ES/\Qq c=true)(b:BK):mk2 e b↔mk2 ES b:=
 ⟨fun a=>AQ a fun v d m q=>⟨v,d,((h _).mp m).1,q⟩,fun a=>AQ a fun v d m q=>⟨v,d,(h _).mpr ⟨m,by
  cases v with
  |func=>rfl|prog=>rfl|_=>exact bU q.1⟩,q⟩⟩
theorem OR{a:BK->Bool}(h:b∈bs):∃q,CK a bs b=some q:=by
 unfold CK;cases e:bs.findIdx? (fun c=>decide (c=b))with
 |none=>exact absurd rfl (of_decide_eq_false (gz.mp e b h))|some i=>exact⟨_,rfl⟩
theorem Yl{aao aax:U}{D4 D5 D6:cD}{fs:List (List T)}(hfs:∀c,c∈fs↔c∈ES/\Qq c=true)(e5:∀b,D4.cap b=true↔mk1 US b\/mk2 fs b)(hl4:Ko L D4 ES)(z4:∀b,D4.aQ b=none)(P5:Ph k H0 aao L D5 ES uL uV US)(I5:jX US ES aao D4 D5 fs)(P6:Ph k H0 aax L D6 ES uL uV US)(f:jU D5 D6)(hC6:cz aax L D6 ES (Ch D5.aQ US) N)(hN:N<=500000)(hk6:jR L ES aao aax):cR k H0 aax L D6 ES US:=by
 have hfsm:∀v vs,v::vs∈ES->v.aK=true->v::vs∈fs:=fun v vs m hf=>(hfs _).mpr ⟨m,hf⟩;refine⟨P6.st,P6.rooted,P6.base,fun b=>?_,fun v vs m hf b hb=>?_,fun v vs m hf=>?_,fun v vs m hf j hj=>?_,fun v vs m hf=>?_,⟨N,hN,by refine Z f.aQ ?_;exact hC6⟩,fun b hb=>by refine Z f.aQ (Z (I5.no b fun v vs m=>hb v vs ((hfs _).mp m).1 ((hfs _).mp m).2) ?_);exact z4 b⟩
 ·exact Z f.cap (Z I5.cap (Z (propext (e5 ..)) (Z (propext (Xc hfs ..)) Iff.rfl)))
 ·exact Z f.aQ (Z f.cap (Z (I5.aQ v vs (hfsm v vs m hf) b hb) (Z I5.cap rfl)))
 ·exact Z f.nl (Z f.nc (Z f.cap (Z I5.cap (I5.cnt v vs (hfsm v vs m hf)))))
 ·have h1:j∈aY/\j≠.aP/\j≠.aJ/\j≠.aA:=(dd rfl:∀j∈[At.params,.aM,.aF,.aL,.aN],j∈aY/\j≠.aP/\j≠.aJ/\j≠.aA) j hj;exact Z (f.lst _ _ h1.2.1 h1.2.2.1) (Z (I5.lst _ _ h1.2.2.2) (hl4 v vs m hf j h1.1))
 ·exact Z (f.lst _ _ (dd rfl) (dd rfl)) ⟨(I5.pp v vs (hfsm v vs m hf)).all.mono fun x y u z=>(Z f.aQ (z.ext fun a M e=>hk6 a _ (fun w Y mw fw=>⟨Db e (P5.st.ls w Y mw fw .aP (dd rfl)) rfl,Db e (P5.st.ls w Y mw fw .aJ (dd rfl)) rfl⟩) (fun u u=>Bu rfl) e))⟩
theorem Z1(c:Code X G k){B r:Addr}{F:List V}{i:cD}{n:List (List T)}{s:V}(S:DZ ES US)(H':Ph k H0 H L i ES B F US)(g:∀c,c∈n↔c∈ES/\Qq c=true)(t:n.Nodup)(C:H r=some (.list (n.map (aZ L))))(u:∀v vs,v::vs∈ES->v.aK=true->∀j∈aY,L.ls v.aq j≠r)(ad:∀a,i.nc a=0/\i.nl a=0)
  (K:∀b,i.cap b=true↔mk1 US b\/mk2 n b) (e:Ko L i ES) (xs:∀b,i.aQ b=none) (w:∀v vs,v::vs∈ES->v.ps.length<=10000) (Ab:jO s=false) (q:∀I D,cR k H0 I L D ES US->Q s I) :
  J5 X (d+31) G H [.ref a,s,.ref B,.ref r,.aa,.aa,.aa,.aa,.aa,.aa,.aa,.aa,.aa,.aa,.aa,.aa,.aa] fun fl I Y=>Q fl.val I:=by
 refine J9 (Aa rfl rfl) C (Tq c S H' g t C u ad e w fun l P aj x o=>jQ ?_);have y:cz l L P ES Kz 0:=⟨fun v vs m h=>by refine Z (o.lst _ _ (dd rfl)) (Z (e v vs m h .aP (dd rfl)) ?_);rfl,fun v vs m h=>by refine Z (o.lst _ _ (dd rfl)) (Z (e v vs m h .aJ (dd rfl)) ?_);trivial,fun v vs m h b p=>absurd p am,fun v vs m h=>⟨ai _,ai _⟩⟩
 exact J9 (Aa rfl rfl) x.hu (Rz c S x y (fun v vs m h b p=>Z (o.aQ v vs ((g _).mpr ⟨m,h⟩) b p) (OR p)) fun E W N ws rL b7 b8 R f z AH A=>jQ (A9 (Aa rfl Ab) (q _ _ (Yl g K e xs x o R f z AH A))))
theorem ND(c:Code X G k){b:List T}(S:DZ ES US)(t:Rep k.N H0 (.prog a b))(W:AS b<=9000)(l:ES=[T.prog a b]::gr [T.prog a b] b)(u:US=aU [T.prog a b] b)(hs:∀v,[v]∈ES->v=T.prog a b)(y:∀v vs,v::vs∈ES->v.ps.length<=10000)
  (q:∀I L D,cR k H0 I L D ES US->Q (aZ L [T.prog a b]) I):aG X (d+32) H0 (G "analyse") [.ref a] Q:=by
 refine c.j4.call rfl (AL (Ao (e₂:=31) (AD (Aa (v:=rf (T.prog a b)) rfl rfl) (Af (v:=.none))) (SR (d:=d) c rfl t rfl (show 10+AS b<=10000 from ab (br W 10) (dd rfl)) (Nat.zero_lt_succ _) fun n x f ls dc bl bd sv xs=>Ad t.at fun fN r ek=>?_) (dd rfl)));have A:St k H0 H0 ⟨fun Y=>0,fun Y=>0,fun Y Y=>0,fun Y=>0⟩ ⟨fun Y Y=>[],fun Y=>false,fun Y=>none,fun Y=>0,fun Y=>0⟩ []:=
  ⟨⟨am,fun Y Y m=>absurd m am,fun Y Y Y m=>absurd m am,fun Y Y Y Y m=>absurd m am,fun Y Y Y Y m=>absurd m am,fun Y Y Y Y m=>absurd m am,fun Y Y Y Y m=>absurd m am,fun Y Y m=>absurd m am,fun Y Y m=>absurd m am,fun Y Y m=>absurd m am⟩,fun Y Y m=>absurd m am,fun Y Y m=>absurd m am,fun Y Y m=>absurd m am,fun Y Y m=>absurd m am,fun Y Y m=>absurd m am,fun Y Y m=>absurd m am⟩
 refine AN (A.oK c.pF c.pC c.qH ⟨fun Y=>rfl,fun Y=>rfl,fun Y=>rfl,fun Y=>rfl⟩ (Base.refl _ _) (v:=T.prog a b) (vs:=[]) rfl (.inl rfl) (fun Y Y m=>absurd m am) r xs) fun g D1 B z1 ws zr=>Bt zr fun Y g3 Y Y=>?_;have rL:aZ g [T.prog a b]=.ref x:=congrArg V.ref ws;have C:x≠a:=fun w=>jd (r.symm.trans (w▸xs.fx));have E:Ko g D1 [[T.prog a b]]:=fun v vs m i j o=>by
  exact Z ((bS (al.mp m)).1) ((g3 j).trans (NX (P:=fun j=>Dh (T.prog a b) j=Er g [[T.prog a b]] (T.prog a b) j) o rfl rfl rfl rfl rfl rfl rfl rfl))
 refine N0 (Aa (v:=.ref x) rfl rfl) (Aa (v:=.ref a) rfl rfl) (xs.ext _ _ r) c.nA ?_;have F:=xs.ext.base.kZ (v:=.ref x) (xs.ext _ _ r);have H:(n.set a (.inst k.N (upd fN .scope (.ref x)))) (g.sc a)=some (.inst k.S f):=by refine Z (show g.sc a=x from ws) (Z (U.aC _ _ C) ?_);exact xs.at'
 refine AL (Ao (e₂:=31) (AG (Aa (v:=aZ g [T.prog a b]) rL.symm rfl)) (O0 (d:=d) c S B z1 F E t H xs.v.nG (xs.bo.bl) (ab W (dd rfl)) l u fun aab L D uL uV R H'=>?_) (ai _));have e:[T.prog a b]∈ES:=Z l (.head _);exact Z (ap rL) (Z (ap H') (AL (Ao (e₂:=31) (AG (Aa (v:=aZ L [T.prog a b]) rfl rfl)) (Oy (d:=d) c R.st R.rooted R.lst (Fw S.nd) e hs S.es fun aaf sL fs ad K Ab AH p=>LK (Ao (e₂:=31) (AD (Aa (v:=.ref uL) rfl rfl) (Aa (v:=.ref sL) rfl rfl)) (KD (d:=d) c S (R.ph.ext ad) R.zero.cap Ab (fun c hc=>(p c).mp hc) (fun v vs m i=>R.lst v vs m i .params (dd rfl)) fun aan D4 P4 s e5 aj=>Z1 c S P4 p AH aj (fun v vs m i j o z=>jd ((R.st.ls v vs m i j o).symm.trans (z▸K))) (fun a=>⟨by refine Z s.nc ?_;exact R.zero.nc a,by refine Z s.nl ?_;exact R.zero.nl a⟩) e5 (fun v vs m i j o=>by refine Z s.lst ?_;exact R.lst v vs m i j o) (fun b=>by refine Z s.aQ ?_;exact R.zero.aQ b) y rfl fun I D h=>q I L D h) (dd rfl))) (dd rfl))))
noncomputable def rI(p:String×Nat):List V:=[.str p.1,.int p.2]
noncomputable def rm(i:Nat):List V:=[.str "up",.int i]
def GE(D:cD)(st:dj)(c:List T)(x:String):Option (List V):=gL (Ak c x).1 (some [.str "global",.str x]) fun b=>gc (Ak c x).2 ((D.aQ b).map rI) fun p z=>((st.bC p).findIdx? fun a=>decide (a=b)).map rm
theorem Jw{st:dj}(h:(Ak c x).1=none):GE D st c x=some [.str "global",.str x]:=by unfold GE;exact Z h rfl
theorem Cl{st:dj}(h:(Ak c x).1=some b)(e:(Ak c x).2=[]):GE D st c x=(D.aQ b).map rI:=by unfold GE;exact Z h (Z e rfl)
theorem SL{st:dj}{p:Addr}(h:(Ak c x).1=some b)(e:(Ak c x).2=p::ps):GE D st c x=((st.bC p).findIdx? fun a=>decide (a=b)).map rm:=by unfold GE;exact Z h (Z e rfl)
def CI(c:List T)(x:String):Bool:=gL (Ak c x).1 false fun b=>decide (b.sort=.self)
theorem ON(h:(Ak c x).1=none):CI c x=false:=by unfold CI;exact Z h rfl
theorem CQ(h:(Ak c x).1=some b):CI c x=decide (b.sort=.self):=by unfold CI;exact Z h rfl
theorem LU(h:iu H0 L ES)(m:c∈ES)(e:(Ak c x).1=some b):Hk ES b:=
 (Hu h (.inr m) e).elim fun v h=>h.elim fun a h=>⟨v,a,h.1,h.2.1⟩
inductive UL(H:U)(L:Loc)(s y:V)(r:Addr)(b:BK)(bs:List BK)(j:Nat)(aaa:U)(m:List V):Prop where
 |mk (a b':V):aaa=H->m=[s,y,.ref (L.bd b),.ref r,a,b',.aa,.aa,.aa]->(bs.take j).findIdx? (fun b'=>decide (b'=b))=none->UL H L s y r b bs j aaa m
theorem Fc(c:Code X G k)(h:St k H0 H L D ES)(hr:Ba ES){st:dj}(hC:cz H L D ES st N)(m:v::vs∈ES)(hl:vs.length<=20)(hx:GE D st (v::vs) x=some M)
  (q:∀I y,aD H I->TupIs I y M->Q y I):aG X (d+3) H (G "place_of") [aZ L (v::vs),.str x] Q:=by
 have hlen:=cv hl;refine c.jw.call rfl (Lg (Ao (AD (Aa rfl rfl) (Aa rfl rfl)) (Dy c h m (ab hlen (dd rfl)) fun aaa p' r hE hr0 hp' hr'=>⟨p',_,rfl,hp',rfl,?_⟩) (ai _)));have h1:=h.ext hE;cases hb:(Ak (v::vs) x).1 with
 |none=>
  rw[Jw hb]at hx;exact EU (aB (Aa rfl rfl) Af rfl) (Vv (bV (AD Af (Aa rfl rfl)) (dd rfl:2<=aT) fun t ht=>q _ _ (hE.trans (aD.set ht)) ⟨t,rfl,by refine Z (ap (ag hx)) ?_;exact U.ak ..⟩))
 |some b=>
  refine AQ (LU h.pure m hb) fun w Y hw hbw=>Bs (aB (Aa rfl rfl) Af rfl) ?_;have hpn:=ab (HH (c:=v::vs) (x:=x)) hlen;cases hp:(Ak (v::vs) x).2 with
  |nil=>
   rw[hp]at hr';rw[Cl hb hp]at hx;exact Ad (hM.mp hx) fun q1 e1 e2=>Ad (h1.bd w Y hw b hbw) fun g eg zg=>Ad (e1▸zg.aQ:cC aaa (g .place) (some q1)) fun tp etp htp=>EU (aB (C9 c (Aa rfl rfl) hr' (bq _)) Af rfl) (NM (Am (Aa (v:=.ref (L.bd b)) rfl rfl) (c.fB eg etp rfl rfl)) (q _ _ hE ⟨tp,rfl,e2▸htp⟩))
  |cons p1 ps1=>
   rw[hp]at hr' hpn;rw[SL hb hp]at hx;refine Ad (hM.mp hx) fun i e1 e2=>AN (IM h.pure hr m hb) fun s s s s hlc s=>?_;rw[hp]at hlc;refine Ay (hlc.mem p1 (.head _)) fun u us hu huf eu=>?_;rw[<-eu]at hr' e1;refine Ad (h1.fn u us hu huf) fun f ef zf=>?_;have ld:=h1.ls u us hu huf .aP (dd rfl);rw[hC.d u us hu huf]at ld;refine Bs (aB (C9 c (Aa rfl rfl) hr' (sz (Z (ac ..) (ab hpn (dd rfl))))) Af (congrArg some (decide_eq_false fun z=>kc _ (Int.natCast_eq_zero.mp z)))) ?_;refine Lz (Am (BR (Aa rfl rfl) hr' rfl rfl) (c.fS ef (zf.lst .aP (dd rfl)) rfl rfl)) ld (AW (UL aaa L (aZ L (v::vs)) (.str x) r b (st.bC u.aq)) ?_ ?_ ⟨_,_,rfl,rfl,rfl⟩)
   ·rintro j y aab mm hy ⟨a,b',rfl,rfl,hno⟩;refine Ad (CU hy) fun b1 hb1 zq2=>?_;subst zq2;refine⟨ld,_,rfl,fun K hK hR=>?_⟩;have tt:=Y5 h1 (cm:=X.cm) (hC.key u us hu huf _ (ay hb1)) ⟨w,Y,hw,hbw⟩;by_cases hq:b1=b
    ·rw[decide_eq_true hq]at tt;have ei:=ag (e1.symm.trans (findIdx?_hit hno hb1 (decide_eq_true hq)));exact Dt (aB (Aa rfl rfl) (Aa rfl rfl) tt) (Bh (bV (AD Af (Aa rfl rfl)) (dd rfl:2<=aT) fun t ht=>hR _ _ _ (q _ _ (hE.trans (aD.set ht)) ⟨t,rfl,by refine Z (ap e2) (Z ei ?_);exact U.ak ..⟩)))
    ·rw[decide_eq_false hq]at tt;exact BJ (aB (Aa rfl rfl) (Aa rfl rfl) tt) (hK _ _ ⟨_,_,rfl,rfl,findIdx?_none_take hno hb1 (decide_eq_false hq)⟩)
   ·rintro aab mm ⟨a,b',rfl,rfl,hno⟩;rw[ac,dp]at hno;exact jd (e1.symm.trans hno)
theorem Vt(c:Code X G k)(h:St k H0 H L D ES)(b:Ba ES){st:dj}(g:cz H L D ES st N)(m:v::vs∈ES)(i:vs.length<=20)(j:GE D st (v::vs) x=some M):
  ∃f,aO X H (aZ L (v::vs)) (ae "find") f/\∀Q:V->U->Prop,(∀I y,aD H I->TupIs I y M->Q y I)->aG X (d+4) H f [aZ L (v::vs),.str x] Q:=by
 cases l:v.aK with
 |true=>
  exact Ad (h.fn v vs m l) fun f e z=>Ad c.jy fun n a xs=>⟨_,aO.inst (c.cx.cls _ c.jb) xs e,fun Q q=>(Z (ap a) (c.gh.call rfl (Bh (Ao (AD (Aa rfl rfl) (Aa rfl rfl)) (Fc c h b g m i j q) (ai _)))))⟩
 |false=>
  exact Ad (h.ca v vs m l) fun f e z=>Ad c.jJ fun n a xs=>⟨_,aO.inst (c.cx.cls _ c.mz) xs e,fun Q q=>(Z (ap a) (c.cV.call rfl (Bh (Ao (AD (Aa rfl rfl) (Aa rfl rfl)) (Fc c h b g m i j q) (ai _)))))⟩
theorem Fo(c:Code X G k)(h:St k H0 H L D ES){e:List T}(m:e∈ES){mm:List V}(a:mm.getD 2 .aa=oZ L (Ak e x).1):Pv (IE (Cu X .IsNot (O 2) (Ae .none)) (Cu X .Eq (Aj X .sort (O 2)) (Ae (.str "self")))) H mm (.bool (CI e x)):=by
 cases d:(Ak e x).1 with
 |none=>
  rw[d]at a;exact Z (ON d) (Ox (Eu (Aa a rfl) Af rfl))
 |some b=>
  rw[d]at a;refine Z (CQ d) (AQ (LU h.pure m d) fun w i j f=>Ad (h.bd w i j b f) fun g l n=>?_);have o:decide (b.sort.str="self")=decide (b.sort=.self):=by cases b.sort<;>decide
  exact SZ (Eu (Aa a rfl) Af rfl) (Eu (Am (Aa a rfl) (c.fB l n.sort rfl rfl)) Af (congrArg some o))
theorem Cp{A B:WE}{mm:List V}{R:V->U->Prop}(h:A H mm fun a d=>B d mm fun b c=>Wb c a b fun v=>R v c):Ax A B H mm R:=h
theorem M1(c:Code X G k)(h:St k H0 H L D ES)(m:v::vs∈ES)(o:vs.length<=20):
  ∃f,aO X H (aZ L (v::vs)) (ae "is_constant") f/\∀Q:V->U->Prop,(∀I,aD H I->Q (.bool (CI (v::vs) x)) I)->aG X (d+3) H f [aZ L (v::vs),.str x] Q:=by
 have l:∀R:V->U->Prop,(∀g,aD H g->R (oZ L (Ak (v::vs) x).1) g)->aG X (d+2) H (G "look_up") [aZ L (v::vs),.str x] fun a g=>Ae (.int 0) g [] fun b aab=>Wb aab a b fun v=>R v aab:=fun R s=>
  Dy c h m (ab (cv o) (dd rfl)) fun g p r i z t z=>⟨_,.tup t (dd rfl) (dd rfl) rfl,s g i⟩
 cases n:v.aK with
 |true=>
  exact Ad (h.fn v vs m n) fun f e z=>Ad c.dG fun u j xs=>⟨_,aO.inst (c.cx.cls _ c.jb) xs e,fun Q q=>(Z (ap j) (c.cO.call rfl (AL (Cp (Ao (AD (Aa rfl rfl) (Aa rfl rfl)) (l _ fun g i=>A9 (Fo c (h.ext i) m rfl) (q g i)) (ai _))))))⟩
 |false=>
  exact Ad (h.ca v vs m n) fun f e z=>Ad c.dF fun u j xs=>⟨_,aO.inst (c.cx.cls _ c.mz) xs e,fun Q q=>(Z (ap j) (c.cg.call rfl (AL (Cp (Ao (AD (Aa rfl rfl) (Aa rfl rfl)) (l _ fun g i=>A9 (Fo c (h.ext i) m rfl) (q g i)) (ai _))))))⟩
def Gk(n:Nat)(b:BK)(a:Addr)(s:dj×Bool×Nat):dj×Bool×Nat:=((Cc n b s.1 s.2.1 s.2.2 a).1,false,(Cc n b s.1 s.2.1 s.2.2 a).2)
def Jz(n:Nat)(b:BK)(st:dj)(ps:List Addr):dj×Bool×Nat:=ps.foldr (Gk n b) (st,true,0)
theorem Qs(n:Nat)(b:BK)(l:List Addr):∀(st:dj) (f:Bool) (c:Nat),Ew n b st f c l=(l.foldl (fun s a=>Gk n b a s) (st,f,c)).1:=by
 induction l with
 |nil=>exact fun z z z=>rfl
 |cons a l d=>exact fun st f c=>d _ _ _
theorem RL{st:dj}:Ew n b st true 0 ps.reverse=(Jz n b st ps).1:=by
 refine Z (Qs ..) (Z List.foldl_reverse ?_);rfl
def Led(st:dj)(b:BK)(n:Nat)(ps:List Addr):Bool->Nat->Prop:=fq (fun f z=>f=true) (fun a z e f i=>f=false/\(st.bC a)[i]?=some b/\∃c d,(st.fG a)[i]?=some (if c then(true,n)else(false,d))/\e c d) ps
end
structure dz(st st':dj):Prop where
 d:∀(a:Addr) (i:Nat) (b:BK),(st.bC a)[i]?=some b->(st'.bC a)[i]?=some b
 t:∀(a:Addr) (i:Nat) (p:Bool×Nat),(st.fG a)[i]?=some p->(st'.fG a)[i]?=some p
theorem dz.refl(st:dj):dz st st:=⟨fun z z z=>id,fun z z z=>id⟩
theorem dz.trans{s t u:dj}(h:dz s t)(c:dz t u):dz s u:=⟨fun a i b e=>c.d a i b (h.d a i b e),fun a i b e=>c.t a i b (h.t a i b e)⟩
theorem Sk{a:Type}{M ys:List a}{i:Nat}{x:a}(h:M[i]?=some x):(M++ys)[i]?=some x:=Z (ij (av.mp h).1) h
theorem Led.mono{st c:dj}{b:BK}{n:Nat}(h:dz st c){ps:List Addr}:∀{f:Bool} {i:Nat},Led st b n ps f i->Led c b n ps f i:=by
 induction ps with
 |nil=>exact id|cons a ps g=>
  intro f i ⟨e,h1,f',i',h2,h3⟩;exact⟨e,h.d _ _ _ h1,f',i',h.t _ _ _ h2,g h3⟩
theorem dz.add(st:dj)(a:Addr)(b:BK)(p:Bool×Nat):dz st (st.add a b p):=by
 refine⟨fun c i d e=>?_,fun c i f e=>?_⟩
 ·show(if c=a then st.bC a++[b]else st.bC c)[i]?=_;by_cases q:c=a
  ·exact Z (if_pos q) (Sk (q▸e))
  ·exact Z (if_neg q) e
 ·show(if c=a then st.fG a++[p]else st.fG c)[i]?=_;by_cases q:c=a
  ·exact Z (if_pos q) (Sk (q▸e))
  ·exact Z (if_neg q) e
theorem Kk{bs:List BK}{b:BK}{i:Nat}(h:bs.findIdx? (fun a=>decide (a=b))=some i):bs[i]?=some b:=Ad (ib.mp h) fun c d z=>(ck c).trans (congrArg some (of_decide_eq_true d))
theorem lu{n:Nat}{b:BK}{st:dj}{f:Bool}{d:Nat}{a x:Addr}{c:BK}:c∈(Cc n b st f d a).1.bC x↔c∈st.bC x\/(c=b/\x=a):=by
 cases h:(st.bC a).findIdx? (fun c=>decide (c=b))with
 |some i=>
  exact Z (Fb h) ⟨.inl,fun g=>g.elim id fun z=>by refine Z z.1 (Z z.2 ?_);exact ay (Kk h)⟩
 |none=>
  refine Z (Fe h) ?_;show c∈(if x=a then st.bC a++[b]else st.bC x)↔_;by_cases e:x=a
  ·exact Z (if_pos e) (Z (propext bX) (Z (propext al) (Z e (or_congr_right ⟨fun z=>⟨z,rfl⟩,And.left⟩))))
  ·exact Z (if_neg e) ⟨.inl,fun z=>z.resolve_right fun z=>e z.2⟩
theorem Vl{n:Nat}{b:BK}{st:dj}{x:Addr}{c:BK}{ps:List Addr}:c∈(Jz n b st ps).1.bC x↔c∈st.bC x\/(c=b/\x∈ps):=by
 induction ps with
 |nil=>exact⟨.inl,fun z=>z.resolve_right fun z=>absurd z.2 am⟩|cons a ps d=>
  exact lu.trans (Z (show ps.foldr (Gk n b) (st,true,0)=Jz n b st ps from rfl) (Z (propext d) (Z (propext or_assoc) (Z (propext bg) (or_congr_right ⟨fun z=>z.elim (fun z=>⟨z.1,.inr z.2⟩) fun z=>⟨z.1,.inl z.2⟩,fun z=>z.2.elim (fun y=>.inr ⟨z.1,y⟩) fun y=>.inl ⟨z.1,y⟩⟩)))))
section
variable{H0:U}{L:Loc}{ES:List (List T)}{US:List (List T×String)}
theorem iu.tl(h:iu H0 L ES){v w:T}{vs Y:List T}(m:v::vs∈ES)(m':w::Y∈ES)(e:v.aq=w.aq):vs=Y:=(bS (h.jf _ _ _ _ m m' e)).2
variable{ps:List Addr}{o:Addr}
theorem bf.dep(h:iu H0 L ES)(b:Ba ES):∀{a:Addr} {v:T} {vs:List T},bf ES ps a o->v::vs∈ES->v.aq=a->∃w Y,w::Y∈ES/\w.aq=o/\Y.length+ps.length<=vs.length:=by
 induction ps with
 |nil=>exact fun{a v vs} l m e=>⟨v,vs,m,e.trans l,ai _⟩
 |cons p ps c=>
  intro a v vs ⟨e1,a',⟨x,M,hx,_,ea,hxs,ef⟩,lc⟩ m e;obtain rfl:=h.tl hx m (ea.trans (e1.trans e.symm));cases M with
  |nil=>exact absurd rfl hxs|cons u n=>
   exact AN (Qo h b (h.lY _ _ _ m)) fun y q d r f g=>Ay (c lc d (f.trans ef)) fun w Y i j k=>⟨w,Y,i,j,cv (ab k (i4 g))⟩
theorem bf.nil(h:iu H0 L ES)(g:Ba ES){a:Addr}(l:bf ES ps a o)(e:a=o):ps=[]:=by
 cases ps with
 |nil=>rfl|cons p ps=>
  obtain⟨b,k,⟨x,m,c,_,d,_⟩,_⟩:=id l;refine Ay (bf.dep h g l c (d.trans b)) fun w n i j f=>?_;rw[h.tl i c (j.trans (e.symm.trans (b.symm.trans d.symm)))]at f;exact absurd f (qq (mi (Nat.zero_lt_succ _)))
theorem bf.jf(h:iu H0 L ES)(d:Ba ES):∀{qs:List Addr} {a:Addr},bf ES ps a o->bf ES qs a o->ps=qs:=by
 induction ps with
 |nil=>exact fun l b=>(b.nil h d l).symm
 |cons p ps i=>
  intro qs a l b;cases qs with
  |nil=>exact l.nil h d b|cons q qs=>
   obtain⟨e,u,⟨x,v,j,_,k,_,m⟩,f⟩:=l;obtain⟨g,n,⟨y,w,r,_,s,_,t⟩,c⟩:=b;rw[<-m,h.tl j r (k.trans (e.trans (g.symm.trans s.symm))),t]at f;exact Z e (Z g (Z (i f c) rfl))
def Own(US:List (List T×String))(ES:List (List T))(b:BK)(o:Addr):Prop:=∃v a,v::a∈ES/\v.aK=true/\v.aq=o/\b∈bG US ES v
theorem Own.jf(h:iu H0 L ES){b:BK}{o':Addr}(a:Own US ES b o)(c:Own US ES b o'):o=o':=AN a fun v g z z e q=>AN c fun w i z z d f=>e.symm.trans ((LB h q f).trans d)
structure dB(ES:List (List T))(US:List (List T×String))(num:BK->Nat)(st:dj):Prop where
 nd:∀a,(st.bC a).Nodup
 ln:∀a,(st.fG a).length=(st.bC a).length
 led:∀(a:Addr) (i:Nat) (b:BK),(st.bC a)[i]?=some b->∃ps o,Own US ES b o/\bf ES ps a o/\Led st b (num b) ps false i
theorem Wg{b:Type}{M:List b}{x y:b}{i:Nat}(h:(M++[x])[i]?=some y):M[i]?=some y\/(i=M.length/\x=y):=by
 by_cases a:i<M.length
 ·rw[ij a]at h;exact .inl h
 ·rw[hY (fh a)]at h;have e:=Nat.lt_one_iff.mp (av.mp h).1;rw[e]at h;exact .inr ⟨io (Nat.sub_eq_zero_iff_le.mp e) (fh a),ag h⟩
theorem Sg{a:Type}{M:List a}{x:a}:(M++[x])[M.length]?=some x:=by refine Z (hY (ai _)) (Z (Nat.sub_self ..) ?_);rfl
variable{num:BK->Nat}{st:dj}
theorem dB.append(H':dB ES US num st){b:BK}{a:Addr}(r:(st.bC a).findIdx? (fun d=>decide (d=b))=none){f:Bool}{c:Nat}(s:Own US ES b o)(t:bf ES (a::ps) a o)(u:Led st b (num b) ps f c):
  dB ES US num (st.add a b (if f then(true,num b)else(false,c)))/\Led (st.add a b (if f then(true,num b)else(false,c))) b (num b) (a::ps) false (st.bC a).length:=by
 have l:=dz.add st a b (if f then(true,num b)else(false,c));have v:b∉st.bC a:=fun m=>absurd rfl (of_decide_eq_false (gz.mp r b m));have h:(st.add a b (if f then(true,num b)else(false,c))).bC a=st.bC a++[b]:=if_pos rfl;have n:(st.add a b (if f then(true,num b)else(false,c))).fG a=st.fG a++[if f then(true,num b)else(false,c)]:=if_pos rfl;have j:∀{a'},a'≠a->(st.add a b (if f then(true,num b)else(false,c))).bC a'=st.bC a':=fun q=>if_neg q;have w:∀{a'},a'≠a->(st.add a b (if f then(true,num b)else(false,c))).fG a'=st.fG a':=fun q=>if_neg q;have p:Led (st.add a b (if f then(true,num b)else(false,c))) b (num b) (a::ps) false (st.bC a).length:=⟨rfl,by refine Z h ?_;exact Sg,f,c,by refine Z n (Z (ap (H'.ln ..)) ?_);exact Sg,u.mono l⟩
 have g:∀a' i d,(st.bC a')[i]?=some d->∃ps o,Own US ES d o/\bf ES ps a' o/\Led (st.add a b (if f then(true,num b)else(false,c))) d (num d) ps false i:=fun a' i d e=>by
  exact Ay (H'.led a' i d e) fun k A B C D=>⟨k,A,B,C,D.mono l⟩
 refine⟨⟨fun a'=>?_,fun a'=>?_,fun a' i d e=>?_⟩,p⟩
 ·by_cases q:a'=a
  ·exact Z q (Z h (eM.mpr ⟨H'.nd a,cr.mpr ⟨am,d0⟩,fun x E y F z=>v (al.mp F▸z▸E)⟩))
  ·exact Z (j q) (H'.nd a')
 ·by_cases q:a'=a
  ·refine Z q (Z h (Z n (Z ba (Z ba (Z (H'.ln a) ?_)))));rfl
  ·exact Z (j q) (Z (w q) (H'.ln a'))
 ·by_cases q:a'=a
  ·rw[q,h]at e;refine Z q ?_;rcases Wg e with e|⟨G,H⟩
   ·exact g a i d e
   ·exact Z (ap H) (Z G ⟨a::ps,o,s,t,p⟩)
  ·rw[j q]at e;exact g a' i d e
theorem dB.q9(h:iu H0 L ES)(l:Ba ES){b:BK}(e:Own US ES b o)(H':dB ES US num st):∀{a:Addr},bf ES ps a o ->
  dB ES US num (Jz (num b) b st ps).1/\dz st (Jz (num b) b st ps).1/\Led (Jz (num b) b st ps).1 b (num b) ps (Jz (num b) b st ps).2.1 (Jz (num b) b st ps).2.2:=by
 induction ps with
 |nil=>exact fun z=>⟨H',dz.refl _,rfl⟩
 |cons p ps m=>
  intro a c;refine Cr (id c) fun z x n f=>?_;have c:bf ES (p::ps) p o:=⟨rfl,x,n,f⟩
  refine Di (m f) fun ad g r=>?_;show dB ES US num (Gk (num b) b p (Jz (num b) b st ps)).1/\dz st (Gk (num b) b p (Jz (num b) b st ps)).1/\Led (Gk (num b) b p (Jz (num b) b st ps)).1 b (num b) (p::ps) false (Gk (num b) b p (Jz (num b) b st ps)).2.2;unfold Gk;cases d:((Jz (num b) b st ps).1.bC p).findIdx? (fun s=>decide (s=b))with
  |some i=>
   refine Z (Fb d) (Ay (ad.led p i b (Kk d)) fun t v u j k=>?_);rw[u.jf h e]at j;rw[j.jf h l c]at k;exact⟨ad,g,k⟩
  |none=>
   refine Z (Fe d) ?_;have q:=ad.append d e c r;exact⟨q.1,g.trans (dz.add ..),q.2⟩
structure gf(ES:List (List T))(US:List (List T×String))(num:BK->Nat)(us:List (List T×String))(st st':dj):Prop where
 inv:dB ES US num st'
 le:dz st st'
 led:∀u∈us,∀b,(Ak u.1 u.2).1=some b->(Ak u.1 u.2).2≠[]->∃i,Led st' b (num b) (Ak u.1 u.2).2 false i
 mem:∀b a,b∈st'.bC a↔b∈st.bC a\/∃u∈us,(Ak u.1 u.2).1=some b/\a∈(Ak u.1 u.2).2
theorem gf.app{us f:List (List T×String)}{s t u:dj}(h:gf ES US num us s t)(g:gf ES US num f t u):gf ES US num (us++f) s u:=
 ⟨g.inv,h.le.trans g.le,fun w c b e n=>(bX.mp c).elim (fun c=>(h.led w c b e n).imp fun i z=>z.mono g.le) fun c=>g.led w c b e n,fun b a=>by
  refine Z (propext (g.mem ..)) (Z (propext (h.mem ..)) (Z (propext or_assoc) ?_));exact or_congr_right ⟨fun z=>z.elim (fun d=>Ad d fun w c q=>⟨w,cq _ c,q⟩) fun d=>Ad d fun w c q=>⟨w,cS _ c,q⟩,fun d=>Ad d fun w c q=>(bX.mp c).imp (fun c=>⟨w,c,q⟩) fun c=>⟨w,c,q⟩⟩⟩
theorem gf.none(H':dB ES US num st){u:List T×String}(h:(Ak u.1 u.2).1=Option.none\/(Ak u.1 u.2).2=[]):gf ES US num [u] st st:=
 ⟨H',dz.refl _,fun w c b e n=>by
  rw[al.mp c]at e n;exact h.elim (fun z=>jd (e.symm.trans z)) fun z=>absurd z n,fun b a=>⟨.inl,fun z=>z.resolve_right fun d=>Az d fun w c e n=>by
  rw[al.mp c]at e n;exact h.elim (fun z=>jd (e.symm.trans z)) fun z=>absurd (z▸n) am⟩⟩
theorem Td(h:iu H0 L ES)(o:Ba ES){aQ:BK->Option (String×Nat)}{u:List T×String}(r:u∈US)(s:u.1∈ES)(H':dB ES US (F6 aQ) st):gf ES US (F6 aQ) [u] st (Cj aQ st u):=by
 cases c:(Ak u.1 u.2).1 with
 |none=>refine Z (Km c) ?_;exact .none H' (.inl c)
 |some b=>
  by_cases f:(Ak u.1 u.2).2=[]
  ·exact Z (Lb f) (.none H' (.inr f))
  ·refine AN (EA h o r s c) fun v t x g i j=>?_;have q:=H'.q9 h o ⟨v,t,x,g,rfl,j⟩ i;refine Z (NW c f) (Z RL ⟨q.1,q.2.1,fun w k y e n=>?_,fun y a=>?_⟩)
   ·rw[al.mp k]at e ⊢;refine Z (ap (ag (c.symm.trans e))) ?_;have z:=q.2.2;cases d:(Ak u.1 u.2).2 with
    |nil=>exact absurd d f|cons p A=>rw[d]at z;exact⟨_,z⟩
   ·refine Z (propext Vl) ?_;exact or_congr_right ⟨fun z=>⟨u,.head _,c.trans (congrArg some z.1.symm),z.2⟩,fun l=>Az l fun w k e m=>by
     rw[al.mp k]at e m;exact⟨(ag (c.symm.trans e)).symm,m⟩⟩
theorem Np(h:iu H0 L ES)(f:Ba ES){aQ:BK->Option (String×Nat)}(g:∀u∈US,u.1∈ES)(us:List (List T×String)):∀(st:dj),(∀u∈us,u∈US)->dB ES US (F6 aQ) st->gf ES US (F6 aQ) us st (us.foldl (Cj aQ) st):=by
 induction us with
 |nil=>exact fun st y H'=>⟨H',dz.refl _,fun u i=>absurd i am,fun b a=>⟨.inl,fun z=>z.resolve_right fun c=>Ad c fun w d y=>absurd d am⟩⟩
 |cons u us j=>
  intro st e H';have q:=Td h f (e u (.head _)) (g u (e u (.head _))) H';exact q.app (j _ (fun w d=>e w (.tail _ d)) q.inv)
theorem Qt :dB ES US num Kz:=⟨fun z=>d0,fun z=>rfl,fun a i b e=>gU e⟩
end
end Mine.Lake
end
section
open PySem PySem.W PySem.Calls PyProof.Rows PySem.Builtin PySem.Builtin.ObjectAttr PySem.SeqAt
set_option tactic.hygienic false
namespace Mine.Lake
structure gq(X:Cx)(la:Addr)(ns:List Int):Prop where
 ex:∃vs:List bm,∃n,X.K.lookup la=some {cls:=.type "list",data:=.seq vs.toArray n}/\cj vs (ns.map .int)
def YO(e:Addr)(d:List Int)(n:Nat)(A:WE):WE:=fun H m Q=>A H m fun a b=>a=.ref e/\d.length<=aT/\∀c,b c=none->Q (.ref c) (b.set c (.list ((d.map .int).take n)))
section
variable{X:Cx}{d:Nat}{H:U}{own:Bool}{env:Env}{m:List V}{p pos:Pos}{sc:List (Str×ce)}
theorem gq.at{a:Addr}{b:List Int}{g:Heap}{s:cE}(h:gq X a b)(R:RH X g s H):∃vs:List bm,s.heap.PlainList a vs.toArray/\cj vs (b.map .int):=AQ (h.ex) fun vs n e r=>⟨vs,⟨n,R.dN.1 _ _ e⟩,r⟩
theorem Wm{o:Expr}{lo up st:Option Expr}{Q:V->U->Prop}{la:Addr}{AH:List Int}(gl:gq X la AH)
  (h:ET X d H own env m (eval o env) VR fun a i=>ET X d i own env m (nE lo env) rx fun l j=>ET X d j own env m (nE up env) rx fun u k=>ET X d k own env m (nE st env) rx fun t e=>
   ∃ys,a=.ref la/\AH.length<=aT/\t≠some 0/\(∀vs,cj vs (AH.map .int)->cj (kT vs.toArray l u t).toList ys)/\∀c,e c=none->Q (.ref c) (e.set c (.list ys))) :
  ET X d H own env m (eval (.Subscript o (.Slice lo up st p) pos) env) VR Q:=fun A g s T R S F=>by
 refine sA (db (h A g s T R S F) (fun va v aj=>aj.casesOn fun a i ra w y B=>wpAny_Slice (db (B A g v T w S y) (fun W C ⟨l,j,rl,D,E,G⟩=>db (G A g C T D S E) (fun ws H' ⟨u,k,ru,ad,K,L⟩=>db (L A g H' T ad S K) (fun rL xs ⟨t,e,rt,f,N,ys,ea,hz,ht,hp,q⟩=>?_) fun Y Y x=>x) fun Y Y x=>x) fun Y Y x=>x)) fun Y Y x=>x);subst ea;obtain rfl:va=.ref la:=ra;obtain⟨vs,⟨n,hl⟩,rv⟩:=gl.at f;have b:=f.cQ {cls:=.type "slice",data:=.fields #[W,ws,rL]};have r:=N.push f {cls:=.type "slice",data:=.fields #[W,ws,rL]};have Ab:(xs.heap.push {cls:=.type "slice",data:=.fields #[W,ws,rL]}).PlainList la vs.toArray:=⟨n,bt _ hl⟩
 refine tail_any Ab.isList.typeIs q0.lookup (te Ab.isList (md ..) rl ru rt ht ?_ (Z bE (Z rv.length (Z (ac ..) hz)))) (CJ _ _);have P:=b.push {cls:=.type "list",data:=.seq (kT vs.toArray l u t)} (.list ys) (fun Y Y z=>nomatch z) ⟨(kT vs.toArray l u t).toList,⟨0,by exact Z (cn _ rfl) rfl⟩,hp vs rv⟩;exact⟨.ref _,_,rfl,P,(r.push b _).adopt (Hid.fresh b r fE).jc rfl,q _ b.fresh⟩
theorem zR{k:Nat}{i b:Pos}{o:Expr}{A:WE}{n:Nat}{f:Addr}{c:List Int}(j:gq X f c)(a:bB X d own sc o A):bB X d own sc (.Subscript o (.Slice none (some (.Constant (.int (n:Nat)) k b)) none i) p) (YO f c n A):=⟨fun env H m Q E h=>
 Wm j ((a.h env H m _ E h).mono fun x g e=>Di e fun l r q=>Dx (Jo (Va ⟨n,rfl,Dx ⟨(c.map .int).take n,l,r,by simp,T9 n,q⟩⟩)))⟩
theorem RO{c:Addr}{b:List Int}{Q:V->U->Prop}(e:gq X c b)(f:b.length<=aT)(q:Q (.int b.length) H):Calls X d H (.blt "len") [.ref c] Q:=fun k h i a=>by
 obtain rfl:=i;refine⟨trivial,?_⟩
 match h,a with
 |[v],a=>
  obtain rfl:=a.1;intro A g s l R;refine Ad (e.at R) fun m j r=>qn j.isList (Z bE (Z r.length (Z (ac ..) (pB (ab f (dd rfl)))))) ⟨.int b.length,H,⟨_,by exact Z bE (Z r.length (Z (ac ..) rfl))⟩,R.toks _,q⟩
 |[],a=>exact a.elim|_::_::_,a=>exact a.2.elim
end
end Mine.Lake
end
section
open PySem PySem.W PySem.Calls PyProof.Rows
set_option tactic.hygienic false
namespace Mine.Lake
def DF:Bf:=Bk ["self"] []
def DS:WX:=fun X d G=>AT (je (Ap X .Is (Aj X .aH (O 0)) (Ae .none)) (Ae .none) (Aj X .place (Aj X .aH (O 0))))
def CE:Bf:=Bk ["self"] []
def CC:WX:=fun X d G=>AT (je (Av (Aj X .aR (O 0))) (Aj X .place (Ax (Aj X .own (O 0)) (Ae (.str "arguments")))) (Ae .none))
def Iy:Bf:=Bk ["level"] ["str"]
def Je:WX:=fun X d G=>AT (AF (Ac (A1 .Add (Ae (.str "p")) (Ai X d (G "str") (Ac (O 0) Ag))) (Ac (A1 .Add (Ae (.str "v")) (Ai X d (G "str") (Ac (O 0) Ag))) (Ac (A1 .Add (Ae (.str "e")) (Ai X d (G "str") (Ac (O 0) Ag))) (Ac (A1 .Add (Ae (.str "s")) (Ai X d (G "str") (Ac (O 0) Ag))) Ag)))))
def Kl:Bf:=Bk ["script","number","some","many","rows","level","turn","drawn"] ["len","range"]
def M6(a:Addr)(b:List Int)(X:Cx)(d:Nat)(G:String->V):WS:=(wExpr (AC X d "append" (Ax (Ax (O 4) (O 5)) (Ae (.str "uses"))) (Ac (Bg (Ac (A1 .Mod (O 7) (A1 .Add (O 5) (Ae (.int 1)))) (Ac (A1 .Mod (A1 .FloorDiv (O 7) (Ae (.int 5))) (Ae (.int 6))) Ag))) Ag)))
def M0(a:Addr)(b:List Int)(X:Cx)(d:Nat)(G:String->V):WS:=(az (Ar 7 (A1 .Add (A1 .Add (Ax (O 2) (A1 .Mod (A1 .Add (A1 .Add (O 5) (O 6)) (Ae (.int 2))) (Ai X d (G "len") (Ac (O 2) Ag)))) (A1 .Mult (Ae (.int 3)) (O 6))) (O 5))) (M6 a b X d G))
def Hm(a:Addr)(b:List Int)(X:Cx)(d:Nat)(G:String->V):WS:=(CG (GT (A1 .Add (Ae (.int 1)) (A1 .Mod (A1 .FloorDiv (O 1) (Ae (.int 5))) (Ae (.int 3))))) (AB 6) (M0 a b X d G))
def MP(a:Addr)(b:List Int)(X:Cx)(d:Nat)(G:String->V):WS:=(az (wExpr (AC X d "append" (O 4) (Ac (PZ (Ft "twice" (Cu X .Eq (A1 .Mod (O 1) (Ae (.int 3))) (Ae (.int 0))) (Ft "strict" (Cu X .Eq (A1 .Mod (O 1) (Ae (.int 4))) (Ae (.int 1))) (Ft "within" (Cu X .Eq (A1 .Mod (O 1) (Ae (.int 2))) (Ae (.int 0))) (Ft "uses" (AF Ag) P3))))) Ag))) (Hm a b X d G))
def Hf(a:Addr)(b:List Int)(X:Cx)(d:Nat)(G:String->V):WS:=(az (Ar 1 (A1 .Add (Ax (O 2) (A1 .Mod (A1 .Add (O 5) (Ae (.int 1))) (Ai X d (G "len") (Ac (O 2) Ag)))) (A1 .Mult (Ae (.int 7)) (O 5)))) (MP a b X d G))
def Nb(a:Addr)(b:List Int)(X:Cx)(d:Nat)(G:String->V):WS:=(az (CG (GT (O 3)) (AB 5) (Hf a b X d G)) (AT (O 4)))
def MS(a:Addr)(b:List Int)(X:Cx)(d:Nat)(G:String->V):WS:=(az (Ar 4 (AF Ag)) (Nb a b X d G))
def MW(a:Addr)(b:List Int)(X:Cx)(d:Nat)(G:String->V):WS:=(az (Ar 3 (A1 .Add (Ae (.int 1)) (A1 .Mod (Ax (O 2) (Ae (.int 0))) (Ae (.int 5))))) (MS a b X d G))
def J7(a:Addr)(b:List Int)(X:Cx)(d:Nat)(G:String->V):WS:=(az (Ar 2 (A1 .Add (Bm (Au (YO a b 12 (O 0))) (AB 1) AI (A1 .Mod (Ai X d (G "abs") (Ac (O 1) Ag)) (Ae (.int 99991))) [none,none,none]) (AF (Ac (A1 .Add (Ai X d (G "len") (Ac (O 0) Ag)) (Ae (.int 2))) Ag)))) (MW a b X d G))
def Fz:Bf:=Bk ["used","sort"] ["_law_names"]
def Fy:WX:=fun X d G=>AT (je (Ap X .Gt (O 1) (Ae (.int 3))) (Ax (AF (Ac (Ae (.str "arguments")) (Ac (Ae (.str "zz")) Ag))) (A1 .Sub (O 1) (Ae (.int 4)))) (Ax (Ai X d (G "_law_names") (Ac (O 0) Ag)) (O 1)))
def FJ:Bf:=Bk ["rows","level","row","names","body","clause","used","sort","use","inner","params"] ["_law_names","Node","_law_use_name","len","_law_function"]
def Eg:WX:=fun X d G=>az (Ar 8 (Ai X d (G "Node") (Ac (Ae (.str "Expr")) (Ac (Ae (.int 1)) (Ac (AF (Ac (Ai X d (G "Node") (Ac (Ae (.str "Name")) (Ac (Ae (.int 1)) (Ac (AF (Ac (Ai X d (G "_law_use_name") (Ac (O 6) (Ac (O 7) Ag))) Ag)) Ag)))) Ag)) Ag))))) (wExpr (AC X d "append" (O 4) (Ac (O 8) Ag)))
def IL:WX:=fun X d G=>bj (Av (Ax (O 2) (Ae (.str "within")))) (wExpr (AC X d "append" (O 5) (Ac (O 9) Ag))) (wExpr (AC X d "append" (O 4) (Ac (O 9) Ag)))
def Eh:WX:=fun X d G=>az (Ar 9 (Ai X d (G "Node") (Ac (Ae (.str "Expr")) (Ac (Ae (.int 1)) (Ac (AF (Ac (Ai X d (G "_law_function") (Ac (O 0) (Ac (A1 .Add (O 1) (Ae (.int 1))) Ag))) Ag)) Ag))))) (IL X d G)
def Ea:WX:=fun X d G=>AT (Ai X d (G "Node") (Ac (Ae (.str "Function")) (Ac (Ae (.int 1)) (Ac (AF (Ac (Ax (O 3) (Ae (.int 3))) (Ac (O 10) (Ac (O 4) (Ac (Ax (O 2) (Ae (.str "strict"))) (Ac (Ae (.str "expr")) Ag)))))) Ag))))
def Ji:WX:=fun X d G=>az (Ar 10 (je (Av (Ax (O 2) (Ae (.str "twice")))) (AF (Ac (Ax (O 3) (Ae (.int 0))) (Ac (Ae (.str "q")) (Ac (Ax (O 3) (Ae (.int 0))) Ag)))) (AF (Ac (Ax (O 3) (Ae (.int 0))) (Ac (Ae (.str "q")) Ag))))) (Ea X d G)
def BQ:WX:=fun X d G=>az (wExpr (AC X d "append" (O 4) (Ac (Ai X d (G "Node") (Ac (Ae (.str "Try")) (Ac (Ae (.int 1)) (Ac (AF (Ac (AF Ag) (Ac (Ax (O 3) (Ae (.int 2))) (Ac (O 5) (Ac (Ae .none) Ag))))) Ag)))) Ag))) (Ji X d G)
def Ed:WX:=fun X d G=>az (bj (Ap X .Lt (A1 .Add (O 1) (Ae (.int 1))) (Ai X d (G "len") (Ac (O 0) Ag))) (Eh X d G) AU) (BQ X d G)
def CM:WX:=fun X d G=>az (CG (Au (Ax (O 2) (Ae (.str "uses")))) (Bc [6,7]) (Eg X d G)) (Ed X d G)
def IH:WX:=fun X d G=>az (Dn 4 5 (AF (Ac (Ai X d (G "Node") (Ac (Ae (.str "Var")) (Ac (Ae (.int 1)) (Ac (AF (Ac (AF (Ac (Bg (Ac (Ax (O 3) (Ae (.int 1))) (Ac (Ai X d (G "Node") (Ac (Ae (.str "Num")) (Ac (Ae (.int 1)) (Ac (AF (Ac (Ae (.int 0)) Ag)) Ag)))) Ag))) Ag)) Ag)) Ag)))) Ag)) (AF Ag)) (CM X d G)
def FZ:WX:=fun X d G=>az (Dn 2 3 (Ax (O 0) (O 1)) (Ai X d (G "_law_names") (Ac (O 1) Ag))) (IH X d G)
def Ld:Bf:=Bk ["rows","level","used","sort"] []
def Pc:WX:=fun X d G=>AT (je (Ap X .Eq (O 3) (Ae (.int 4))) (Bg (Ac (O 1) (Ac (Ae (.int 4)) Ag))) (Bg (Ac (O 2) (Ac (O 3) Ag))))
def LN:WX:=fun X d G=>az (bj (Bq (Ap X .Eq (O 3) (Ae (.int 5))) (Bq (AP (Ap X .Eq (O 3) (Ae (.int 2))) (AP (Bq (Ap X .Eq (O 2) (O 1)) (Bq (FL (Av (Ax (Ax (O 0) (O 2)) (Ae (.str "within"))))) A7)) AI)) A7)) (AT (Ae .none)) AU) (Pc X d G)
def FV:Bf:=Bk ["rows","found","level","row","used","sort"] ["enumerate","_law_names","_law_use_name","_law_met"]
def IU:WX:=fun X d G=>wExpr (AC X d "append" (O 1) (Ac (Bg (Ac (O 2) (Ac (Ai X d (G "_law_use_name") (Ac (O 4) (Ac (O 5) Ag))) (Ac (Ai X d (G "_law_met") (Ac (O 0) (Ac (O 2) (Ac (O 4) (Ac (O 5) Ag))))) Ag)))) Ag))
def ID:WX:=fun X d G=>CG (Au (Ax (O 3) (Ae (.str "uses")))) (Bc [4,5]) (IU X d G)
def Eb:WX:=fun X d G=>az (wExpr (AC X d "append" (O 1) (Ac (Bg (Ac (O 2) (Ac (Ax (Ai X d (G "_law_names") (Ac (O 2) Ag)) (Ae (.int 1))) (Ac (Bg (Ac (O 2) (Ac (Ae (.int 1)) Ag))) Ag)))) Ag))) (ID X d G)
def IF:WX:=fun X d G=>az (CP (O 0) [2,3] (Eb X d G)) (AT (O 1))
def FI:WX:=fun X d G=>az (Ar 1 (AF Ag)) (IF X d G)
def G9:Bf:=Bk ["program","found","scope"] []
def KF:WX:=fun X d G=>az (Ar 2 (Ax (Aj X .aL (O 2)) (Ae (.int 0)))) (wExpr (AC X d "append" (O 1) (Ac (O 2) Ag)))
def Kq:WX:=fun X d G=>az (DC (Ap X .NotEq (Aj X .aL (O 2)) (AF Ag)) (KF X d G)) (AT (O 1))
def G4:WX:=fun X d G=>az (Dn 1 2 (AF Ag) (Aj X .scope (O 0))) (Kq X d G)
def LD:Bf:=Bk ["scope","place","is_own","number"] []
def OS:WX:=fun X d G=>Ar 1 (je (Av (O 2)) (Bg (Ac (Ae (.str "cell")) (Ac (O 3) Ag))) (Bg (Ac (Ae (.str "up")) (Ac (O 3) Ag))))
def Ob:WX:=fun X d G=>az (Ar 0 (AC X d "function" (Aj X .parent (O 0)) Ag)) (OS X d G)
def OD:WX:=fun X d G=>az (CR [2,3] (Ax (Aj X .aJ (O 0)) (Ax (O 1) (Ae (.int 1))))) (Ob X d G)
def LV:WX:=fun X d G=>az (DC (Ap X .Eq (Ax (O 1) (Ae (.int 0))) (Ae (.str "up"))) (OD X d G)) (AT (Bg (Ac (O 0) (Ac (O 1) Ag))))
def EK:Bf:=Bk ["scope","variable","level","sort"] ["_law_names"]
def HC:WX:=fun X d G=>AT (Aj X .place (Aj X .cU (Ax (Aj X .aN (O 0)) (Ae (.int 0)))))
def HD:WX:=fun X d G=>AT (AC X d "find" (O 0) (Ac (je (Ap X .Eq (O 3) (Ae (.int 4))) (Ae (.str "arguments")) (Ax (Ai X d (G "_law_names") (Ac (O 2) Ag)) (O 3))) Ag))
def HN:WX:=fun X d G=>az (bj (Ap X .Eq (O 3) (Ae (.int 2))) (HC X d G) AU) (HD X d G)
def Fa:WX:=fun X d G=>az (CR [2,3] (O 1)) (HN X d G)
def Eo:Bf:=Bk ["scopes","uses","level","name","meant","place","frame","last"] ["_law_led","_law_own_place"]
def GZ:WX:=fun X d G=>bj (Ap X .NotEq (O 5) (Bg (Ac (Ae (.str "global")) (Ac (O 3) Ag)))) (AT (Ae (.bool false))) AU
def G0:WX:=fun X d G=>bj (Bq (Ap X .NotEq (O 6) (Ax (O 0) (Ax (O 4) (Ae (.int 0))))) (Bq (Ap X .NotEq (O 7) (Ai X d (G "_law_own_place") (Ac (Ax (O 0) (Ax (O 4) (Ae (.int 0)))) (Ac (O 4) Ag)))) A7)) (AT (Ae (.bool false))) AU
def GW:WX:=fun X d G=>az (CR [6,7] (Ai X d (G "_law_led") (Ac (Ax (O 0) (O 2)) (Ac (O 5) Ag)))) (G0 X d G)
def GX:WX:=fun X d G=>bj (Ap X .Is (O 4) (Ae .none)) (GZ X d G) (GW X d G)
def Ds:WX:=fun X d G=>az (Ar 5 (AC X d "find" (Ax (O 0) (O 2)) (Ac (O 3) Ag))) (GX X d G)
def Ek:WX:=fun X d G=>az (CG (Au (O 1)) (Bc [2,3,4]) (Ds X d G)) (AT (Ae (.bool true)))
noncomputable def DN:List (Str×ce):=[(ae "scope",.cell),(ae "rows",uk),(ae "level",.cell),(ae "uses",uk),(ae "outer",uk),(ae "has_arguments",uk),(ae "is_named",uk),(ae "inner",uk),(ae "pinned",uk),(ae "cells",uk),(ae "clause",uk),(ae "names",uk),(ae "len",uj),(ae "set",uj),(ae "list",uj),(ae "int",uj),(ae "_law_names",uj)]
def BL:WX:=fun X d G=>AT (IE (Cu X .Eq (Aj X .aF (O 0)) (AF (Ac (Ax (Ai X d (G "_law_names") (Ac (O 2) Ag)) (Ae (.int 1))) Ag))) (IE (Cu X .Eq (Aj X .aM (O 0)) (AF Ag)) (Cu X .Eq (Aj X .sort (O 0)) (Ae (.str "function")))))
def BF:WX:=fun X d G=>az (bj (Bq (AP (Av (O 6)) (AP (FL (Av (AC X d "is_constant" (O 0) (Ac (Ax (Ai X d (G "_law_names") (Ac (O 2) Ag)) (Ae (.int 3))) Ag)))) AI)) (Bq (Av (AC X d "is_constant" (O 0) (Ac (Ax (Ai X d (G "_law_names") (Ac (O 2) Ag)) (Ae (.int 1))) Ag))) A7)) (AT (Ae (.bool false))) AU) (BL X d G)
def BE:WX:=fun X d G=>az (bj (Bq (Ap X .NotEq (AC X d "find" (O 10) (Ac (Ae (.str "zz")) Ag)) (Bg (Ac (Ae (.str "global")) (Ac (Ae (.str "zz")) Ag)))) (Bq (Av (AC X d "is_constant" (O 10) (Ac (Ax (O 11) (Ae (.int 2))) Ag))) A7)) (AT (Ae (.bool false))) AU) (BF X d G)
def BM:WX:=fun X d G=>az (bj (Bq (Ap X .NotEq (AC X d "find" (O 10) (Ac (Ax (O 11) (Ae (.int 2))) Ag)) (Aj X .place (Aj X .cU (O 10)))) (Bq (Ap X .NotEq (AC X d "find" (O 10) (Ac (Ax (O 11) (Ae (.int 1))) Ag)) (AC X d "find" (O 0) (Ac (Ax (O 11) (Ae (.int 1))) Ag))) A7)) (AT (Ae (.bool false))) AU) (BE X d G)
def BP:WX:=fun X d G=>az (Dn 10 11 (Ax (Aj X .aN (O 0)) (Ae (.int 0))) (Ai X d (G "_law_names") (Ac (O 2) Ag))) (BM X d G)
def BH:WX:=fun X d G=>az (bj (AP (Av (O 5)) (AP (Ap X .NotEq (Hb X d (G "Scope") (G "Scope_arguments_place") (O 0)) (AC X d "find" (O 0) (Ac (Ae (.str "arguments")) Ag))) AI)) (AT (Ae (.bool false))) AU) (BP X d G)
def BO:WX:=fun X d G=>az (bj (Bq (Ap X .NotEq (Aj X .aR (O 0)) (O 5)) (Bq (Ap X .NotEq (Aj X .d8 (O 0)) (Ax (Ax (O 1) (O 2)) (Ae (.str "strict")))) A7)) (AT (Ae (.bool false))) AU) (BH X d G)
def BX:WX:=fun X d G=>az (bj (Bq (Ap X .Eq (Cu X .Is (Hb X d (G "Scope") (G "Scope_self_place") (O 0)) (Ae .none)) (O 6)) (Bq (Ap X .Eq (Cu X .Is (Hb X d (G "Scope") (G "Scope_arguments_place") (O 0)) (Ae .none)) (O 5)) A7)) (AT (Ae (.bool false))) AU) (BO X d G)
def BY:WX:=fun X d G=>az (bj (Ap X .NotEq (Aj X .aA (O 0)) (Bm (Au (Aj X .params (O 0))) (AB 1) AI (AC X d "find" (O 2) (Ac (O 1) Ag)) [none,none,some 0])) (AT (Ae (.bool false))) AU) (BX X d G)
def Bo:WX:=fun X d G=>az (bj (Bq (Ap X .NotEq (Aj X .bQ (O 0)) (O 9)) (Bq (Ap X .NotEq (Aj X .bD (O 0)) (A1 .Sub (A1 .Add (A1 .Add (Ae (.int 4)) (Ai X d (G "int") (Ac (O 5) Ag))) (Ai X d (G "int") (Ac (O 6) Ag))) (O 9))) A7)) (AT (Ae (.bool false))) AU) (BY X d G)
def BZ:WX:=fun X d G=>az (Ar 9 (Ai X d (G "len") (Ac (Ai X d (G "set") (Ac (A1 .Add (Ai X d (G "list") (Ac (O 7) Ag)) (O 8)) Ag)) Ag))) (Bo X d G)
def Ga:WX:=fun X d G=>az (Ar 8 (je (Bq (Av (Ax (Ax (O 1) (O 2)) (Ae (.str "strict")))) (Bq (FL (Av (O 5))) A7)) (AF Ag) (AF (Ac (Bg (Ac (O 2) (Ac (Ae (.int 0)) Ag))) (Ac (Bg (Ac (O 2) (Ac (Ae (.int 6)) Ag))) Ag))))) (BZ X d G)
def B1:WX:=fun X d G=>az (Ar 7 (Ai X d (G "set") (Ac (Bm (Au (O 3)) (Bc [1,2,3]) (AP (Ap X .Gt (O 1) (O 4)) (AP (Ap X .IsNot (O 3) (Ae .none)) (AP (Ap X .Eq (Ax (O 3) (Ae (.int 0))) (O 4)) AI))) (O 3) [none,none,none,none,some 2]) Ag))) (Ga X d G)
def F9:WX:=fun X d G=>az (Ar 6 (Cu X .In (Bg (Ac (O 2) (Ac (Ae (.int 3)) Ag))) (Bm (Au (O 3)) (Bc [1,2,3]) AI (O 3) [none,none,none,none]))) (B1 X d G)
def BV:WX:=fun X d G=>az (Ar 5 (Cu X .In (Bg (Ac (O 2) (Ac (Ae (.int 4)) Ag))) (Bm (Au (O 3)) (Bc [1,2,3]) (Ap X .Eq (O 1) (O 4)) (O 3) [none,none,none,none,some 2]))) (F9 X d G)
def Gq:WX:=fun X d G=>az (bj (Ap X .NotEq (Ai X d (G "len") (Ac (Aj X .aJ (O 0)) Ag)) (Ai X d (G "len") (Ac (Ai X d (G "set") (Ac (O 4) Ag)) Ag))) (AT (Ae (.bool false))) AU) (BV X d G)
def Cv:WX:=fun X d G=>az (Ar 4 (Bm (Au (O 3)) (Bc [1,2,3]) (AP (Ap X .GtE (O 1) (O 4)) (AP (Ap X .IsNot (O 3) (Ae .none)) (AP (Ap X .Lt (Ax (O 3) (Ae (.int 0))) (O 4)) AI))) (O 3) [none,none,none,none,some 2])) (Gq X d G)
def Dr:Bf:=Bk ["is_var","body","named","program","scope"] ["Node","int","analyse"]
def C0:WX:=fun X d G=>AT (IE (Cu X .Eq (Aj X .bD (O 4)) (A1 .Add (Ae (.int 1)) (Ai X d (G "int") (Ac (O 0) Ag)))) (pN (O 0) (Cu X .Eq (Aj X .aA (O 4)) (AF (Ac (AC X d "find" (O 4) (Ac (Ae (.str "s")) Ag)) Ag)))))
def C1:WX:=fun X d G=>az (bj (Bq (Ap X .IsNot (Hb X d (G "Scope") (G "Scope_self_place") (O 4)) (Ae .none)) (Bq (Av (AC X d "is_constant" (O 4) (Ac (Ae (.str "s")) Ag))) (Bq (Ap X .NotEq (Ax (AC X d "find" (O 4) (Ac (Ae (.str "s")) Ag)) (Ae (.int 0))) (Ae (.str "local"))) A7))) (AT (Ae (.bool false))) AU) (C0 X d G)
def Bi:WX:=fun X d G=>az (Ar 4 (Ax (Aj X .aL (Ai X d (G "analyse") (Ac (O 3) Ag))) (Ae (.int 0)))) (C1 X d G)
def BI:WX:=fun X d G=>az (Ar 3 (Ai X d (G "Node") (Ac (Ae (.str "Program")) (Ac (Ae (.int 1)) (Ac (AF (Ac (AF (Ac (Ai X d (G "Node") (Ac (Ae (.str "Expr")) (Ac (Ae (.int 1)) (Ac (AF (Ac (O 2) Ag)) Ag)))) Ag)) (Ac (Ae (.bool false)) Ag))) Ag))))) (Bi X d G)
def C2:WX:=fun X d G=>az (Ar 2 (Ai X d (G "Node") (Ac (Ae (.str "Function")) (Ac (Ae (.int 1)) (Ac (AF (Ac (Ae (.str "s")) (Ac (je (Av (O 0)) (AF (Ac (Ae (.str "q")) Ag)) (AF (Ac (Ae (.str "s")) Ag))) (Ac (O 1) (Ac (Ae (.bool false)) (Ac (Ae (.str "expr")) Ag)))))) Ag))))) (BI X d G)
def Ck:WX:=fun X d G=>az (Ar 1 (A1 .Add (AF (Ac (Ai X d (G "Node") (Ac (Ae (.str "Expr")) (Ac (Ae (.int 1)) (Ac (AF (Ac (Ai X d (G "Node") (Ac (Ae (.str "Name")) (Ac (Ae (.int 1)) (Ac (AF (Ac (Ae (.str "s")) Ag)) Ag)))) Ag)) Ag)))) Ag)) (A1 .Mult (AF (Ac (Ai X d (G "Node") (Ac (Ae (.str "Var")) (Ac (Ae (.int 1)) (Ac (AF (Ac (AF (Ac (Bg (Ac (Ae (.str "s")) (Ac (Ae .none) Ag))) Ag)) Ag)) Ag)))) Ag)) (Ai X d (G "int") (Ac (O 0) Ag))))) (C2 X d G)
def Zy:Bf:=Bk ["script","rows","program","root","scopes","uses","level","scope"] ["_law_plan","Node","_law_function","analyse","_law_scopes","_law_all_uses","len","_law_uses_right","_law_hidden_right","enumerate","_law_level_right"]
def WA:WX:=fun X d G=>bj (AP (Ap X .Gt (O 6) (Ae (.int 0))) (AP (Ap X .NotEq (AC X d "function" (Aj X .parent (O 7)) Ag) (Ax (O 4) (A1 .Sub (O 6) (Ae (.int 1))))) AI)) (AT (Ae (.bool false))) AU
def Tb:WX:=fun X d G=>az (bj (AP (Ap X .Gt (O 6) (Ae (.int 0))) (AP (Ap X .NotEq (Aj X .sort (Aj X .parent (O 7))) (je (Av (Ax (Ax (O 1) (A1 .Sub (O 6) (Ae (.int 1)))) (Ae (.str "within")))) (Ae (.str "catch")) (Ae (.str "function")))) AI)) (AT (Ae (.bool false))) AU) (WA X d G)
def SO:WX:=fun X d G=>az (bj (Bq (FL (Av (Ai X d (G "_law_level_right") (Ac (O 7) (Ac (O 1) (Ac (O 6) (Ac (O 5) Ag))))))) (Bq (Ap X .NotEq (Ai X d (G "len") (Ac (Aj X .aN (O 7)) Ag)) (Ae (.int 1))) A7)) (AT (Ae (.bool false))) AU) (Tb X d G)
def Sq:WX:=fun X d G=>az (CP (O 4) [6,7] (SO X d G)) (AT (Ae (.bool true)))
def SK:WX:=fun X d G=>az (bj (Bq (FL (Av (Ai X d (G "_law_hidden_right") (Ac (Ae (.bool true)) Ag)))) (Bq (FL (Av (Ai X d (G "_law_hidden_right") (Ac (Ae (.bool false)) Ag)))) A7)) (AT (Ae (.bool false))) AU) (Sq X d G)
def Sv:WX:=fun X d G=>az (bj (Bq (Ap X .NotEq (Ai X d (G "len") (Ac (O 4) Ag)) (Ai X d (G "len") (Ac (O 1) Ag))) (Bq (Ap X .NotEq (Aj X .parent (Ax (O 4) (Ae (.int 0)))) (O 3)) (Bq (FL (Av (Ai X d (G "_law_uses_right") (Ac (O 4) (Ac (O 5) Ag))))) A7))) (AT (Ae (.bool false))) AU) (SK X d G)
def Sf:WX:=fun X d G=>az (bj (Bq (Ap X .NotEq (Aj X .sort (O 3)) (Ae (.str "program"))) (Bq (Ap X .NotEq (A1 .Add (A1 .Add (Aj X .bD (O 3)) (Aj X .bQ (O 3))) (Ai X d (G "len") (Ac (Aj X .aJ (O 3)) Ag))) (Ae (.int 0))) A7)) (AT (Ae (.bool false))) AU) (Sv X d G)
def S1:WX:=fun X d G=>az (Dn 4 5 (Ai X d (G "_law_scopes") (Ac (O 2) Ag)) (Ai X d (G "_law_all_uses") (Ac (O 1) Ag))) (Sf X d G)
def Xw:WX:=fun X d G=>az (Ar 3 (Ai X d (G "analyse") (Ac (O 2) Ag))) (S1 X d G)
def Si:WX:=fun X d G=>az (Ar 2 (Ai X d (G "Node") (Ac (Ae (.str "Program")) (Ac (Ae (.int 1)) (Ac (AF (Ac (AF (Ac (Ai X d (G "Node") (Ac (Ae (.str "Expr")) (Ac (Ae (.int 1)) (Ac (AF (Ac (Ai X d (G "_law_function") (Ac (O 1) (Ac (Ae (.int 0)) Ag))) Ag)) Ag)))) Ag)) (Ac (Ae (.bool false)) Ag))) Ag))))) (Xw X d G)
def Y8:WX:=fun X d G=>az (Ar 1 (Ai X d (G "_law_plan") (Ac (O 0) Ag))) (Si X d G)
end Mine.Lake
end
section
open PySem PySem.W PySem.Calls PyProof.Rows PySem.Builtin PySem.Builtin.ObjectAttr PySem.SeqAt
set_option tactic.hygienic false
namespace Mine.Lake
structure Bj(X:Cx)(G:String->V)(la:Addr)(ns:List Int):Prop where
 names:dw X G (G "_law_names") 1 1 Iy Je
 sr:dw X G (G "_law_plan") 1 9 Kl (J7 la ns)
 nQ:dw X G (G "_law_use_name") 2 1 Fz Fy
 function:dw X G (G "_law_function") 2 14 FJ FZ
 met:dw X G (G "_law_met") 4 0 Ld LN
 nW:dw X G (G "_law_all_uses") 1 9 FV FI
 scopes:dw X G (G "_law_scopes") 1 2 G9 G4
 led:dw X G (G "_law_led") 2 2 LD LV
 ownPlace:dw X G (G "_law_own_place") 2 3 EK Fa
 mH:dw X G (G "_law_uses_right") 2 8 Eo Ek
 mj:dw X G (G "_law_level_right") 4 13 DN Cv
 hidden:dw X G (G "_law_hidden_right") 1 7 Dr Ck
 law:dw X G (G "law") 1 18 Zy Y8
 oJ:dw X G (G "Scope_self_place") 1 0 DF DS
 oF:dw X G (G "Scope_arguments_place") 1 0 CE CC
 qC:G "str"=.typ "str"
 mZ:G "int"=.typ "int"
 mV:G "set"=.typ "set"
 qb:G "abs"=.blt "abs"
section
variable{k:fW}{H I:U}{X:Cx}{d:Nat}{G:String->V}{la:Addr}{ns:List Int}{A B:WE}{m:List V}{i j:Int}{a b v:V}{W:WS}{Q:bu->U->List V->Prop}
theorem zy(a:Pv A H m (.int i))(b:Pv B H m (.int j))(h:0<j):Pv (A1 .Mod A B) H m (.int (i%j)):=OO a b fun Q q=>Uy h q
theorem xG(a:Pv A H m (.int i))(b:Pv B H m (.int j))(c:i.natAbs<2^60)(d:j.natAbs<2^60):Pv (A1 .Mult A B) H m (.int (i*j)):=OO a b fun Q q=>yE c d q
theorem Abk(a:Pv A H m (.int i))(b:Pv B H m (.int j))(h:0<j)(c:i.natAbs<2^60)(d:j.natAbs<2^29):Pv (A1 .FloorDiv A B) H m (.int (i/j)):=OO a b fun Q q=>xH h c d q
noncomputable def bx(c:String)(l:Nat):String:=c++toString (l:Int)
def nms(l:Nat):List String:=[bx "p" l,bx "v" l,bx "e" l,bx "s" l]
theorem AaX(g:Bj X G la ns){l:Nat}(b:l<1000)(a:Pv A H m (.int l)):Pv (Ai X d (G "str") (Ac A Ag)) H m (.str (toString (l:Int))):=fun Q q=>by
 exact Z g.qC (a _ (Ur (ge _) (Int.lt_toNat.mp b) q))
theorem XW:∀l:Nat,l<10->(toString (l:Int)).toList.length<=100:=by decide +kernel
theorem uK(g:Bj X G la ns){l:Nat}(b:l<10){c:String}(e:c.toList.length<=100)(a:Pv A H m (.int l)):Pv (A1 .Add (Ae (.str c)) (Ai X d (G "str") (Ac A Ag))) H m (.str (bx c l)):=
 OO Af (AaX g (ee b (dd rfl)) a) fun Q q=>.adds _ _ rfl rfl rfl (ab (cc e (XW l b)) (dd rfl)) q
theorem Fq(g:Bj X G la ns){l:Nat}(hl:l<10){Q:V->U->Prop}(q:∀r,H r=none->Q (.ref r) (H.set r (.list ((nms l).map .str)))):aG X (d+1) H (G "_law_names") [.int l] Q:=by
 have p:∀c:String,c.toList.length<=100->Pv (A1 .Add (Ae (.str c)) (Ai X d (G "str") (Ac (O 0) Ag))) H [.int l,.aa] (.str (bx c l)):=fun c hc=>uK g hl hc (Aa rfl rfl);exact g.names.call rfl (Bh (AX (BD (p "p" (dd rfl)) (BD (p "v" (dd rfl)) (AD (p "e" (dd rfl)) (p "s" (dd rfl))))) (dd rfl:4<=aT) q))
def Cd(u s:Nat):String:=if s<=3 then(nms u).getD s "" else if s=4 then "arguments" else "zz"
structure Row where
 (tw st wi:Bool) (us:List (Nat×Nat))
noncomputable abbrev ni(n:Nat):V:=.int n
def bW(H:U)(p:Addr)(x:Nat×Nat):Prop:=H p=some (.tup [ni x.1,ni x.2])
structure jY(H:U)(r:Addr)(w:Row):Prop where
 ex:∃ep u ps,H r=some (.dict [("twice",.bool w.tw),("strict",.bool w.st),("within",.bool w.wi),("uses",.ref u)] ep)/\H u=some (.list (ps.map .ref))/\bw (bW H) ps w.us
structure bL(H:U)(rl:Addr)(Y:List Row):Prop where
 ex:∃rs:List Addr,H rl=some (.list (rs.map .ref))/\bw (jY H) rs Y
structure SB(l:Nat)(w:Row):Prop where
 n1:1<=w.us.length
 n3:w.us.length<=3
 u:∀x∈w.us,x.1<=l/\x.2<=5
structure dY(Y:List Row):Prop where
 n1:1<=Y.length
 n5:Y.length<=5
 r:∀(l:Nat) (w:Row),Y[l]?=some w->SB l w
end
section
variable{k:fW}{H I:U}{X:Cx}{d:Nat}{G:String->V}{la:Addr}{ns:List Int}{A B:WE}{m:List V}{a b:Nat}{W:WS}{Q:bu->U->List V->Prop}
variable{p:Addr}{x:Nat×Nat}
theorem bW.kp(h:bW H p x)(e:Kp H I):bW I p x:=e _ _ (fun z z=>nofun) h
theorem jY.kp{r:Addr}{w:Row}(h:jY H r w)(e:Kp H I):jY I r w:=Br h.ex fun a u b c d f=>⟨a,u,b,e _ _ (fun y y=>nofun) c,e.list d,f.mono fun y y y z=>z.kp e⟩
theorem bL.kp{a:Addr}{Y:List Row}(h:bL H a Y)(e:Kp H I):bL I a Y:=Ad h.ex fun b c d=>⟨b,e.list c,d.mono fun y y y z=>z.kp e⟩
theorem B9(c:Pv A H m (ni a))(d:Pv B H m (ni b)):Pv (A1 .Add A B) H m (ni (a+b)):=by
 show Pv _ _ _ (.int ((a+b:Nat):Int));exact Z (Int.natCast_add ..) (HL c d)
theorem SF(c:Pv A H m (ni a))(d:Pv B H m (ni b))(h:a<=1000000)(e:b<=1000000):Pv (A1 .Mult A B) H m (ni (a*b)):=by
 show Pv _ _ _ (.int ((a*b:Nat):Int));exact Z (Int.natCast_mul ..) (xG c d (aI h (dd rfl)) (aI e (dd rfl)))
theorem GR(c:Pv A H m (ni a))(d:Pv B H m (ni b))(h:0<b):Pv (A1 .Mod A B) H m (ni (a%b)):=by
 show Pv _ _ _ (.int ((a%b:Nat):Int));exact Z (Int.natCast_emod ..) (zy c d (li.mpr h))
theorem SW(c:Pv A H m (ni a))(d:Pv B H m (ni b))(h:0<b)(e:a<=1000000)(f:b<=1000000):Pv (A1 .FloorDiv A B) H m (ni (a/b)):=by
 show Pv _ _ _ (.int ((a/b:Nat):Int));exact Z (Int.natCast_ediv ..) (Abk c d (li.mpr h) (aI e (dd rfl)) (aI f (dd rfl)))
theorem X1(c:Pv A H m (ni a))(d:Pv B H m (ni b))(h:b<=a):Pv (A1 .Sub A B) H m (ni (a-b)):=by
 show Pv _ _ _ (.int ((a-b:Nat):Int));exact Z (Int.natCast_sub h) (OM c d)
theorem Gf{l:Addr}{M:List V}{v:V}(a:Pv A H m (.ref l))(e:H l=some (.list M))(c:Pv B H m (ni b))(d:M[b]?=some v)(f:b<=1000000):Pv (Ax A B) H m v:=
 Fm a c (.list e (ge _) (r63 f) (Z (eS ..) d))
theorem Fu{l:Addr}{es:List (String×V)}{y:String}{v:V}(b:Pv A H m (.ref l))(e:H l=some (.dict es a))(c:es.lookup y=some v):Pv (Ax A (Ae (.str y))) H m v:=Fm b Af (.dict e c)
theorem Ff(cm:Addr->Bool)(x y:Nat):Bv cm H .Eq (ni x) (ni y)=some (decide (x=y)):=by
 show some (decide ((x:Int)=y))=_;rw[decide_eq_decide.mpr q4]
theorem Ru(cm:Addr->Bool)(x y:Nat):Bv cm H .Gt (ni x) (ni y)=some (decide (y<x)):=by
 show some (decide ((y:Int)<x))=_;rw[decide_eq_decide.mpr Int.ofNat_lt]
theorem QZ(cm:Addr->Bool)(x y:Nat):Bv cm H .Lt (ni x) (ni y)=some (decide (x<y)):=by
 show some (decide ((x:Int)<y))=_;rw[decide_eq_decide.mpr Int.ofNat_lt]
theorem Ve{u s:Nat}(h:3<s)(a:s<=5):[V.str "arguments",V.str "zz"][s-4]?=some (.str (Cd u s)):=by
 have:=zp h a;rcases this with e|e<;>rw[e]<;>rfl
theorem WC{u s:Nat}(h:¬3<s):((nms u).map V.str)[s]?=some (.str (Cd u s)):=by
 have:=vI h;rcases this with e|e|e|e<;>rw[e]<;>rfl
theorem Mh(g:Bj X G la ns){u s:Nat}(hu:u<10)(hs:s<=5){Q:V->U->Prop}(q:∀I,aD H I->Q (.str (Cd u s)) I):aG X (d+2) H (G "_law_use_name") [ni u,ni s] Q:=by
 refine g.nQ.call rfl (Bh ?_);have p1:∀{H:U},Pv (O 1) H [ni u,ni s,.aa] (ni s):=Aa rfl rfl;have t:cP (Ap X .Gt (O 1) (Ae (.int 3))) H [ni u,ni s,.aa] (decide (3<s)):=aB p1 (Af) (Ru _ _ _);by_cases h3:3<s
 ·rw[decide_eq_true h3]at t;exact Ev t (Cp (AX (AD Af Af) (dd rfl:2<=aT) fun r hr=>X1 p1 Af h3 _ ⟨_,.list (U.ak ..) (ge _) (r63 (ab (pc s 4) (ab hs (dd rfl)))) (Z (eS ..) (Ve h3 hs)),q _ (aD.set hr)⟩))
 ·rw[decide_eq_false h3]at t;exact Es t (Cp (Ao (AG (Aa rfl rfl)) (Fq g hu fun r hr=>p1 _ ⟨.str (Cd u s),.list (U.ak ..) (ge _) (r63 (ab hs (dd rfl))) (Z (eS ..) (WC h3)),q _ (aD.set hr)⟩) (dd rfl)))
theorem QA{n j:Nat}{x:V}(h:(PP n)[j]?=some x):j<n/\x=ni j:=by
 unfold PP at h;rw[b9]at h;cases q:(ej n)[j]? with
 |none=>rw[q]at h;cases h
 |some i=>
  rw[q]at h;refine AA (av.mp q) fun a b=>?_;rw[fo]at a;rw[tJ]at b;exact⟨a,by refine Z b ?_;exact(ag h).symm⟩
theorem QJ(n:Nat):(PP n).length=n:=by unfold PP;exact Z (ac ..) (Z fo rfl)
structure Zs(H:U)(sl:Addr)(zs:List Nat):Prop where
 e:H sl=some (.list (zs.map ni))
 n0:0<zs.length
 n:zs.length<=100
 le:∀z∈zs,z<=100000
variable{sl:Addr}
theorem Zs.get{a:List Nat}(z:Zs H sl a)(i:Nat):∃y,(a.map ni)[i%a.length]?=some (ni y)/\y<=100000:=by
 have b:=hZ i z.n0;have e:=ck b;exact⟨_,by refine Z (b9) (Z e ?_);rfl,z.le _ (ay e)⟩
theorem SY(c:Code X G k){b:List Nat}(z:Zs H sl b)(f:Pv (O 2) H m (.ref sl))(g:Pv A H m (ni a)){y:Nat}(h:(b.map ni)[a%b.length]?=some (ni y)):
  Pv (Ax (O 2) (A1 .Mod A (Ai X d (G "len") (Ac (O 2) Ag)))) H m (ni y):=by
 have i:Pv (Ai X d (G "len") (Ac (O 2) Ag)) H m (ni b.length):=by
  have:=C9 (d:=d) c f z.e (sz (Z (ac ..) (ab z.n (dd rfl))));rwa [ac]at this
 exact Gf f z.e (GR g i z.n0) h (ab (dk (hZ _ z.n0)) (ab z.n (dd rfl)))
inductive ZT(H:U)(r0 sl rl u:Addr)(nn mn l j:Nat)(H2:U)(m:List V):Prop where
 |mk (tv dv:V) (ps:List Addr) (us:List (Nat×Nat)):m=[.ref r0,ni nn,.ref sl,ni mn,.ref rl,ni l,tv,dv,.aa,.aa]->bK (fun a=>a=u) H H2->H2 u=some (.list (ps.map .ref))->bw (bW H2) ps us->us.length=j->(∀x∈us,x.1<=l/\x.2<=5)->ZT H r0 sl rl u nn mn l j H2 m
theorem Xi(c:Code X G k){r0 rl u r:Addr}{zs:List Nat}{nn mn l ep:Nat}{rs:List Addr}{row:Bool×Bool×Bool}(z:Zs H sl zs)(hl:l<=10)(hrl:H rl=some (.list (rs.map .ref)))(hr:rs[l]?=some r)
  (hd:H r=some (.dict [("twice",.bool row.1),("strict",.bool row.2.1),("within",.bool row.2.2),("uses",.ref u)] ep)) (hu:H u=some (.list [])) (n1:sl≠u) (n2:rl≠u) (hn:nn<=200000) {tv dv:V}
  (q:∀H2 tv dv ps us,bK (fun a=>a=u) H H2->H2 u=some (.list (ps.map .ref))->bw (bW H2) ps us->us.length=1+nn/5%3->(∀x∈us,x.1<=l/\x.2<=5)->Q .next H2 [.ref r0,ni nn,.ref sl,ni mn,.ref rl,ni l,tv,dv,.aa,.aa]) :
  Hm la ns X (d+3) G H [.ref r0,ni nn,.ref sl,ni mn,.ref rl,ni l,tv,dv,.aa,.aa] Q:=by
 have p1:Pv (O 1) H [.ref r0,ni nn,.ref sl,ni mn,.ref rl,ni l,tv,dv,.aa,.aa] (ni nn):=Aa rfl rfl;have pn:=B9 (Af (v:=ni 1)) (GR (SW p1 (Af (v:=ni 5)) (dd rfl) (xg hn) (dd rfl)) (Af (v:=ni 3)) (dd rfl));refine pn _ ⟨1+nn/5%3,rfl,aI (br (dk (hZ _ (dd rfl:0<3))) 1) (dd rfl),AW (ZT H r0 sl rl u nn mn l) ?_ ?_ ⟨tv,dv,[],[],rfl,fun w w w e=>e,hu,trivial,rfl,fun w h=>absurd h am⟩⟩
 ·rintro j x H2 m hx ⟨tv,dv,ps,us,rfl,hE,hu2,ha,hj,hb⟩;refine aV (QA hx) fun hj3 zq1=>?_;subst zq1;refine⟨trivial,_,rfl,fun K hK w=>?_⟩;have z2:Zs H2 sl zs:=⟨hE _ _ n1 z.e,z.n0,z.n,z.le⟩
  refine Ad (z.get (l+j+2)) fun y hy hyb=>?_;have hj2:j<=2:=Yh hj3;refine Id (v:=ni (y+3*j+l)) (B9 (B9 (SY c z2 (Aa rfl rfl) (B9 (B9 (a:=l) (b:=j) (Aa rfl rfl) (Aa rfl rfl)) (Af (v:=ni 2))) hy) (SF (a:=3) (b:=j) Af (Aa rfl rfl) (dd rfl) (zb hj3))) (Aa rfl rfl)) ?_;have nr:r≠u:=Db hd hu rfl;refine Rk (l:=u) (Fu (Gf (b:=l) (v:=.ref r) (Aa rfl rfl) (hE _ _ n2 hrl) (Aa rfl rfl) (by refine Z (b9) (Z hr ?_);rfl) (AeI hl)) (hE _ _ nr hd) rfl) hu2 ?_;refine bV (AD (GR (a:=y+3*j+l) (b:=l+1) (Aa rfl rfl) (B9 (Aa rfl rfl) (Af (v:=ni 1))) (iX _)) (GR (SW (a:=y+3*j+l) (Aa rfl rfl) (Af (v:=ni 5)) (dd rfl) (wg hl hj3 hyb) (dd rfl)) (Af (v:=ni 6)) (dd rfl))) (dd rfl:2<=aT) fun tp htp=>?_;have nt:tp≠u:=fun z=>jd (hu2.symm.trans (z▸htp));have hpl:ps.length<=10:=by have:=ha.length;exact AdM hj hj3 this
  refine Bn (Ah htp hu2) (Z (ac ..) (ab hpl (dd rfl))) (hK _ _ ⟨_,_,ps++[tp],us++[((y+3*j+l)%(l+1),(y+3*j+l)/5%6)],rfl,(hE.fresh htp).set rfl,?_,?_,by refine Z ba (Z hj ?_);rfl,fun x hx=>?_⟩)
  ·refine Z (U.ak ..) (Z bP ?_);rfl
  ·have keep:∀{p x},bW H2 p x->bW ((H2.set tp (.tup [ni ((y+3*j+l)%(l+1)),ni ((y+3*j+l)/5%6)])).set u (.list (ps.map .ref++[.ref tp]))) p x:=fun{p x} e=>by
    have np:p≠u:=fun z=>rY ((z▸hu2).symm.trans e) rfl;show _=_;exact Z (U.aC _ _ np) (Ah htp e)
   refine(ha.mono fun w w w z=>keep z).app ⟨?_,trivial⟩;show _=_;exact Z (U.aC _ _ nt) (U.ak ..)
  ·rcases bX.mp hx with hx|hx
   ·exact hb x hx
   ·exact Z (al.mp hx) ⟨de (hZ _ (iX _)),de (hZ _ (dd rfl))⟩
 ·rintro H2 m ⟨tv,dv,ps,us,rfl,hE,hu2,ha,hj,hb⟩;rw[QJ]at hj;exact⟨trivial,q H2 _ _ ps us hE hu2 ha hj hb⟩
abbrev sy:=U->List V->(List (String×V)->U->Prop)->Prop
theorem XF{b:sy}{R:V->U->Prop}(h:b H m fun ps a=>(ps.map (·.1)).Nodup/\ps.length<=100/\∀r c,a r=none->R (.ref r) (a.set r (.dict ps c))):PZ b H m R:=h
variable{K:List (String×V)->U->Prop}
theorem zX{x:String}{d:sy}(h:A H m fun a b=>d b m fun e c=>K ((x,a)::e) c):Ft x A d H m K:=h
theorem Q5{x:String}{v:V}{c:sy}(a:Pv A H m v)(h:c H m fun d b=>K ((x,v)::d) b):Ft x A c H m K:=a _ h
theorem w6(h:K [] H):P3 H m K:=h
noncomputable def del(H:U)(a:Addr):U:=fun b=>if b=a then none else H b
variable{o:bI}
theorem JG{a b:Addr}(e:H b=some o)(n:b≠a):del H a b=some o:=(if_neg n).trans e
theorem E3{a b:Addr}(e:del H a b=some o):b≠a/\H b=some o:=by
 by_cases n:b=a
 ·exact gU ((if_pos n).symm.trans e)
 ·exact⟨n,(if_neg n).symm.trans e⟩
theorem oE{a:Addr}:aD (del H a) H:=fun b o e=>(E3 e).2
inductive UB(H:U)(r0 sl rl:Addr)(mn j:Nat)(H2:U)(m:List V):Prop where
 |mk (nv lv tv dv:V) (rs:List Addr) (Y:List Row):m=[.ref r0,nv,.ref sl,ni mn,.ref rl,lv,tv,dv,.aa,.aa]->bK (fun a=>a=rl) H H2->H2 rl=some (.list (rs.map .ref))->bw (jY (del H2 rl)) rs Y->Y.length=j->(∀(i:Nat) (w:Row),Y[i]?=some w->SB i w)->UB H r0 sl rl mn j H2 m
theorem Vx(c:Code X G k){r0 rl:Addr}{zs:List Nat}{mn j:Nat}{H0 H2:U}{nv tv dv:V}{rs:List Addr}{Y:List Row}(z:Zs H0 sl zs)(nsr:sl≠rl)(hj:j<=4)(hE:bK (fun a=>a=rl) H0 H2)(hrl:H2 rl=some (.list (rs.map .ref)))(ha:bw (jY (del H2 rl)) rs Y)(hl:Y.length=j)
  (hok:∀(i:Nat) (w:Row),Y[i]?=some w->SB i w) (q:∀I m',UB H0 r0 sl rl mn (j+1) I m'->Q .next I m'):Hf la ns X (d+3) G H2 [.ref r0,nv,.ref sl,ni mn,.ref rl,ni j,tv,dv,.aa,.aa] Q:=by
 have z2:Zs H2 sl zs:=⟨hE _ _ nsr z.e,z.n0,z.n,z.le⟩
 refine Ad (z.get (j+1)) fun y hy hyb=>Id (v:=ni (y+7*j)) (B9 (SY c z2 (Aa rfl rfl) (B9 (a:=j) (Aa rfl rfl) (Af (v:=ni 1))) hy) (SF (a:=7) (b:=j) Af (Aa rfl rfl) (dd rfl) (AeK hj))) ?_;have p1:Pv (O 1) H2 [.ref r0,ni (y+7*j),.ref sl,ni mn,.ref rl,ni j,tv,dv,.aa,.aa] (ni (y+7*j)):=Aa rfl rfl;have cm:∀a b:Nat,0<a->Pv (Cu X .Eq (A1 .Mod (O 1) (Ae (.int (a:Int)))) (Ae (.int (b:Int)))) H2 [.ref r0,ni (y+7*j),.ref sl,ni mn,.ref rl,ni j,tv,dv,.aa,.aa] (.bool (decide ((y+7*j)%a=b))):=fun a b h=>Eu (GR p1 (Af (v:=ni a)) h) (Af (v:=ni b)) (Ff _ _ _);have rl_len:rs.length=j:=ha.length.trans hl;refine O1 (Aa rfl rfl) hrl (XF (Q5 (cm 3 0 (dd rfl)) (Q5 (cm 4 1 (dd rfl)) (Q5 (cm 2 0 (dd rfl)) (zX (AX A4 (bq _) fun u hu=>w6 ⟨(dd rfl:["twice","strict","within","uses"].Nodup),(dd rfl:4<=100),fun r ep hr=>(aV (AZ hr) fun hr2 hru=>?_)⟩))))));have nul:u≠rl:=(An hu hrl).symm;have nrl:r≠rl:=(An hr2 hrl).symm;have nus:sl≠u:=An hu z2.e;refine Bn (Ah hr (Ah hu hrl)) (Z (ac ..) (Z rl_len (ab hj (dd rfl)))) ?_;refine AA (⟨_,rfl⟩:∃H4,H4=((H2.set u (.list [])).set r (.dict [("twice",.bool (decide ((y+7*j)%3=0))),("strict",.bool (decide ((y+7*j)%4=1))),("within",.bool (decide ((y+7*j)%2=0))),("uses",.ref u)] ep)).set rl (.list (rs.map .ref++[.ref r]))) fun H4 u4=>Z (ap u4) ?_;have k4:∀{b o},H2 b=some o->b≠rl->H4 b=some o:=fun e n=>by refine Z u4 (Z (U.aC _ _ n) ?_);exact Ah hr (Ah hu e)
 have e4u:H4 u=some (.list []):=by refine Z u4 (Z (U.aC _ _ nul) ?_);exact Ah hr (U.ak ..)
 have e4r:H4 r=some (.dict [("twice",.bool (decide ((y+7*j)%3=0))),("strict",.bool (decide ((y+7*j)%4=1))),("within",.bool (decide ((y+7*j)%2=0))),("uses",.ref u)] ep):=by refine Z u4 (Z (U.aC _ _ nrl) ?_);exact U.ak ..
 have e4l:H4 rl=some (.list ((rs++[r]).map .ref)):=by refine Z u4 (Z (U.ak ..) (Z bP ?_));rfl
 refine Xi (d:=d) c (rs:=rs++[r]) (row:=(decide ((y+7*j)%3=0),decide ((y+7*j)%4=1),decide ((y+7*j)%2=0))) ⟨k4 z2.e nsr,z.n0,z.n,z.le⟩ (xX hj) e4l (by refine Z (ap rl_len) (Z (hY (ai _)) (Z (Nat.sub_self ..) ?_));rfl) e4r e4u nus (kl nul) (z8 hj hyb) fun H5 tv dv ps us hE5 e5u h5 hul hub=>?_;have k5:∀{b o},H2 b=some o->b≠rl->H5 b=some o:=fun{b o} e n=>hE5 b o (An hu e) (k4 e n);have hx:aD (del H2 rl) (del H5 rl):=fun b o e=>JG (k5 (E3 e).2 (E3 e).1) (E3 e).1;have p5:bw (bW (del H5 rl)) ps us:=h5.mono fun p x t e=>JG e fun t=>rY ((t▸hE5 rl _ (kl nul) e4l).symm.trans e) rfl;refine q _ _ ⟨_,_,_,_,rs++[r],Y++[⟨decide ((y+7*j)%3=0),decide ((y+7*j)%4=1),decide ((y+7*j)%2=0),us⟩],rfl,fun b o n e=>k5 (hE b o n e) n,hE5 _ _ (kl nul) e4l,?_,by refine Z ba (Z hl ?_);rfl,fun i w hw=>?_⟩
 ·exact(ha.mono fun t t t z=>z.kp hx.kp).app ⟨⟨ep,u,ps,JG (hE5 _ _ (Db e4r e4u rfl) e4r) nrl,JG e5u nul,p5⟩,trivial⟩
 ·rw[List.getElem?_append]at hw;by_cases hi:i<Y.length
  ·rw[if_pos hi]at hw;exact hok i w hw
  ·rw[if_neg hi]at hw;refine AA (av.mp hw) fun h1 h2=>?_;have hi0:i-Y.length=0:=Nat.lt_one_iff.mp h1;have:w=⟨decide ((y+7*j)%3=0),decide ((y+7*j)%4=1),decide ((y+7*j)%2=0),us⟩:=by rw[hi0]at hw;exact(ag hw).symm
   rw[this,show i=j by exact ye hl hi hi0];exact⟨by show 1<=us.length;exact Nat.le.intro (_root_.id (ap hul)),by show us.length<=3;exact xP hul,hub⟩
theorem zA{AH:WS}{n:Nat}{b:Nat->V->U->List V->Option (List V)}(a:Pv A H m (ni n))(c:n<2^60)(h:forL b (fun z=>True) AH (Hh W Q) 0 (PP n) H m):az (CG (GT A) b AH) W H m Q:=a _ ⟨n,rfl,c,h⟩
noncomputable def gk(i:Int):Nat:=((if i<0 then -i else i)%99991).toNat
theorem NY(i:Int):((gk i:Nat):Int)=(if i<0 then -i else i)%99991:=Int.toNat_of_nonneg (Int.emod_nonneg _ (dd rfl))
theorem Tk(i:Int):gk i<=100000:=by
 have h1:=NY i;have h2:(if i<0 then -i else i)%99991<99991:=t5 _ (dd rfl);exact yV h1
theorem vK(c:Code X G k)(g:Bj X G la ns)(gla:gq X la ns)(hn:ns.length<=63){Q:V->U->Prop}(q:∀I rl Y,aD H I->bL I rl Y->dY Y->Q (.ref rl) I):aG X (d+4) H (G "_law_plan") [.ref la] Q:=by
 have hnz:ns.length<=aT:=sz (ab hn (dd rfl));have p0:∀{H:U} {m:List V},m.getD 0 .aa=.ref la->Pv (O 0) H m (.ref la):=fun e=>Aa e rfl;have l12:(ns.take 12).length<=12:=List.length_take_le ..;refine g.sr.call rfl (AL (JN (EN (p0 rfl _ ⟨rfl,hnz,fun t16 ht16=>⟨t16,(ns.take 12).map .int,rfl,(U.ak ..).trans (Z kH rfl),by refine Z (ac ..) ?_;exact ab l12 (dd rfl),?_⟩⟩))));refine kW (h:=fun i=>ni (gk i)) ((U.ak ..).trans (Z kH rfl)) (fun i u=>fun K qK=>JN (Gb (AG (Aa (v:=.int i) rfl rfl)) (by refine Z g.qb ?_;exact Tc (Uy (j:=99991) (dd rfl) (Z (ap (NY ..)) qK))))) fun r2 hr2=>?_;have plen:∀{H:U} {m:List V},m.getD 0 .aa=.ref la->Pv (Ai X (d+3) (G "len") (Ac (O 0) Ag)) H m (ni ns.length):=fun e K qK=>Gb (AG (p0 e)) (Z c.lq (RO gla hnz qK));refine AX (AG (B9 (plen rfl) (Af (v:=ni 2)))) (dd rfl:1<=aT) fun r3 hr3=>KM (Ah hr3 (U.ak ..)) (U.ak ..) ?_ fun sl hsl=>?_
 ·exact Z (ac ..) (ab (cK l12 _) (dd rfl:12+1<=aT))
 have E1:aD H ((((H.set t16 (.list (((ns.map V.int).take 12)))).set r2 (.list ((ns.take 12).map fun i=>ni (gk i)))).set r3 (.list [ni (ns.length+2)])).set sl (.list (((ns.take 12).map fun i=>ni (gk i))++[ni (ns.length+2)]))):=((((aD.set ht16).trans (aD.set hr2)).trans (aD.set hr3)).trans (aD.set hsl))
 refine AA (⟨_,rfl⟩:∃H1,H1=(((H.set t16 (.list (((ns.map V.int).take 12)))).set r2 (.list ((ns.take 12).map fun i=>ni (gk i)))).set r3 (.list [ni (ns.length+2)])).set sl (.list (((ns.take 12).map fun i=>ni (gk i))++[ni (ns.length+2)]))) fun H1 h1=>?_;rw[<-h1]at E1 ⊢;have z:Zs H1 sl ((ns.take 12).map gk++[ns.length+2]):=⟨by refine Z h1 (Z (U.ak ..) (Z bP (Z f8 ?_)));rfl,by refine Z ba ?_;exact iX _,by refine Z ba (Z (ac ..) ?_);exact ab (cK l12 _) (dd rfl:12+1<=100),fun y hy=>by
  rcases bX.mp hy with hy|hy
  ·refine Ad (bn.mp hy) fun i u zq2=>?_;subst zq2;exact Tk i
  ·refine Z (al.mp hy) ?_;exact wW hn⟩
 refine Ad (z.get 0) fun y hy hyb=>?_;rw[Nat.zero_mod]at hy;refine Id (v:=ni (1+y%5)) (B9 (Af (v:=ni 1)) (GR (Gf (b:=0) (Aa rfl rfl) z.e (Af (v:=ni 0)) hy (dd rfl)) (Af (v:=ni 5)) (dd rfl))) (AL (AX A4 (bq _) fun rl hrl=>?_));have nsr:sl≠rl:=An hrl z.e;have z2:Zs (H1.set rl (.list [])) sl ((ns.take 12).map gk++[ns.length+2]):=⟨Ah hrl z.e,z.n0,z.n,z.le⟩
 have h5:y%5<5:=hZ _ (dd rfl);refine zA (n:=1+y%5) (Aa rfl rfl) (bv (Nat.add_lt_add_left h5 1) (dd rfl)) (AW (UB (H1.set rl (.list [])) la sl rl (1+y%5)) ?_ ?_ ⟨.aa,.aa,.aa,.aa,[],[],rfl,fun u u u e=>e,U.ak ..,trivial,rfl,fun i w e=>gU e⟩)
 ·rintro j x H2 m hx ⟨nv,lv,tv,dv,rs,Y,rfl,hE,hrl2,ha,hj,hok⟩;refine aV (QA hx) fun hj5 zq1=>?_;subst zq1;exact⟨trivial,_,rfl,fun K hK u=>Vx (d:=d) c z2 nsr (zH hj5) hE hrl2 ha hj hok hK⟩
 ·rintro H2 m ⟨nv,lv,tv,dv,rs,Y,rfl,hE,hrl2,ha,hj,hok⟩;rw[QJ]at hj;refine⟨trivial,jQ (A9 (Aa (v:=.ref rl) rfl rfl) (q H2 rl Y (fun b o e=>?_) ⟨rs,hrl2,ha.mono fun u u u u=>u.kp oE.kp⟩ ⟨by exact Nat.le.intro (_root_.id (ap hj)),by exact yX hj,hok⟩))⟩;have e1:=E1 b o e;exact hE b o (An hrl e1) (Ah hrl e1)
def ZN(a:String)(p:Addr):At->V:=upd (upd (upd (upd LO .kind (.str a)) .line (.int 1)) .parts (.ref p)) .scope .none
theorem v7(c:Code X G k){g:String}{Q:V->U->Prop}(q:∀a,H a=none->Q (.ref a) (H.set a (.inst k.N (ZN g p)))):aG X (d+2) H (G "Node") [.str g,.int 1,.ref p] Q:=by
 refine Ad c.nN fun f h N=>Z c.gN (GI N fun b i=>Z (ap h) ?_);have e:∀{H},Pv (O 0) H [.ref b,.str g,.int 1,.ref p] (.ref b):=Aa rfl rfl;exact c.gw.call rfl (Cg (Aa rfl rfl) e c.nA (Cg (Aa rfl rfl) e c.nA (Cg (Aa rfl rfl) e c.nA (Xa Af e c.nA ⟨rfl,q b i⟩))))
structure iT(k:fW)(H I:U)(kd:String)(a p:Addr)(vs:List V):Prop where
 ext:aD H I
 fp:H p=none
 fa:H a=none
 ep:I p=some (.list vs)
 ea:I a=some (.inst k.N (ZN kd p))
variable{vs:List V}
theorem BB(c:Code X G k){e:String}{R:V->U->Prop}(l:2<=d)(z:vs.length<=aT)(q:∀I a p,iT k H I e a p vs->R (.ref a) I):M9 (.list vs) vs.length H fun v H=>Calls X d H (G "Node") [.str e,.int 1,v] R:=
 ⟨z,fun p f=>(v7 c fun a b=>q _ a p ⟨(aD.set f).trans (aD.set b),f,(AZ b).1,Ah b (U.ak ..),U.ak ..⟩).calls.lower (ab (ct (df 2)) l)⟩
theorem FN{b:WL}{c:String}{R:V->U->Prop}(h:b H m fun vs a=>M9 (.list vs) vs.length a fun v H=>Calls X d H (G "Node") [.str c,.int 1,v] R):Ai X d (G "Node") (Ac (Ae (.str c)) (Ac (Ae (.int 1)) (Ac (AF b) Ag))) H m R:=h
theorem KO(c:Code X G k){b:WL}{e:String}{R:V->U->Prop}(l:2<=d)(f:m8 b H m vs)(z:vs.length<=aT)(q:∀I a p,iT k H I e a p vs->R (.ref a) I):Ai X d (G "Node") (Ac (Ae (.str e)) (Ac (Ae (.int 1)) (Ac (AF b) Ag))) H m R:=FN (f _ (BB c l z q))
theorem iT.is{b:String}{a:Addr}(n:iT k H I b a p vs):bh k.N I a b vs:=⟨_,p,n.ea,rfl,rfl,n.ep⟩
theorem CW{K:List V->U->Prop}(h:A H m fun a b=>K [a] b):Ac A Ag H m K:=h
noncomputable def nw(H0 H:U):U:=fun z=>Option.rec (H z) (fun y=>none) (H0 z)
variable{z:Addr}
theorem Ij{H0:U}(n:H0 z=none)(e:H z=some o):nw H0 H z=some o:=by unfold nw;exact Z n e
theorem Ii{H0:U}(e:nw H0 H z=some o):H0 z=none/\H z=some o:=by
 unfold nw at e;cases q:H0 z with
 |none=>rw[q]at e;exact⟨rfl,e⟩
 |some p=>rw[q]at e;cases e
def GU(H0 H:U)(a b:Addr):U:=nw H0 (del (del H a) b)
theorem Jd{H0:U}{a b:Addr}(f:H0 z=none)(e:H z=some o)(n:z≠a)(c:z≠b):GU H0 H a b z=some o:=Ij f (JG (JG e n) c)
theorem NT{H0:U}{a b:Addr}(e:GU H0 H a b z=some o):H0 z=none/\z≠a/\z≠b/\H z=some o:=aV (Ii e) fun c d=>aV (E3 d) fun f g=>aV (E3 g) fun h i=>⟨c,h,f,i⟩
theorem GQ{H0:U}{a b:Addr}(h:∀z o,z≠a->z≠b->H z=some o->I z=some o):aD (GU H0 H a b) (GU H0 I a b):=fun z o e=>by
 exact Bt (NT e) fun f c d g=>Jd f (h z o c d g) c d
structure eX(N:Addr)(H0 H:U)(nl bl cl l:Nat)(ts cs:List T):Prop where
 ext:aD H0 H
 fb:H0 bl=none
 fc:H0 cl=none
 oN:bl≠cl
 names:H nl=some (.list ((nms l).map .str))
 pP:nl≠bl
 qM:nl≠cl
 body:H bl=some (.list (cI ts))
 clause:H cl=some (.list (cI cs))
 rep:bA N (GU H0 H bl cl) ts
 n7:bA N (GU H0 H bl cl) cs
section
variable{N:Addr}{H0:U}{nl bl cl l:Nat}{ts cs:List T}
theorem eX.up(s:eX N H0 H nl bl cl l ts cs)(e:aD H I):eX N H0 I nl bl cl l ts cs:=
 have x:=GQ fun z o y y q=>e z o q
 ⟨s.ext.trans e,s.fb,s.fc,s.oN,e _ _ s.names,s.pP,s.qM,e _ _ s.body,e _ _ s.clause,s.rep.ext x,s.n7.ext x⟩
theorem eX.pU(s:eX N H0 H nl bl cl l ts cs){t:T}(r:Rep N (GU H0 H bl cl) t):eX N H0 (H.set bl (.list (cI ts++[rf t]))) nl bl cl l (ts++[t]) cs:=
 have x:=GQ fun z o n y q=>by refine Z (U.aC _ _ n) ?_;exact q
 ⟨fun z o e=>by refine Z (U.aC _ _ (An s.fb e)) ?_;exact s.ext z o e,s.fb,s.fc,s.oN,by refine Z (U.aC _ _ s.pP) ?_;exact s.names,s.pP,s.qM,by exact Z (U.ak ..) (Z (GC ..) rfl),by refine Z (U.aC _ _ s.oN.symm) ?_;exact s.clause,
  bA.app.mpr ⟨s.rep.ext x,r.ext x,trivial⟩,s.n7.ext x⟩
theorem eX.sE(s:eX N H0 H nl bl cl l ts cs){t:T}(r:Rep N (GU H0 H bl cl) t):eX N H0 (H.set cl (.list (cI cs++[rf t]))) nl bl cl l ts (cs++[t]):=
 have x:=GQ fun z o y n q=>by refine Z (U.aC _ _ n) ?_;exact q
 ⟨fun z o e=>by refine Z (U.aC _ _ (An s.fc e)) ?_;exact s.ext z o e,s.fb,s.fc,s.oN,by refine Z (U.aC _ _ s.qM) ?_;exact s.names,s.pP,s.qM,by refine Z (U.aC _ _ s.oN) ?_;exact s.body,by exact Z (U.ak ..) (Z (GC ..) rfl),
  s.rep.ext x,bA.app.mpr ⟨s.n7.ext x,r.ext x,trivial⟩⟩
theorem eX.node(s:eX k.N H0 H nl bl cl l ts cs){b:String}{a p:Addr}{vs:List V}(n:iT k H I b a p vs):bh k.N (GU H0 I bl cl) a b vs:=
 ⟨_,p,Jd (s.ext.none n.fa) n.ea (fun z=>jd ((z▸s.body).symm.trans n.fa)) (fun z=>jd ((z▸s.clause).symm.trans n.fa)),rfl,rfl,Jd (s.ext.none n.fp) n.ep (fun z=>jd ((z▸s.body).symm.trans n.fp)) (fun z=>jd ((z▸s.clause).symm.trans n.fp))⟩
theorem eX.is(s:eX N H0 H nl bl cl l ts cs){b:String}{a:Addr}{vs:List V}(n:bh N (GU H0 H bl cl) a b vs)(e:aD H I):bh N (GU H0 I bl cl) a b vs:=
 (GQ fun z o y y q=>e z o q).base.bF n
end
structure iy where
 (f v b t e:Addr) (us:List (Addr×Addr))
def B5(l:Nat)(w:Row):List String:=if w.tw then[bx "p" l,"q",bx "p" l]else[bx "p" l,"q"]
def DH(M:List (Nat×Nat))(a:List (Addr×Addr)):List T:=(a.zip M).map fun x=>.expr x.1.1 (.name x.1.2 (Cd x.2.1 x.2.2))
def tD(a:iy)(l:Nat)(w:Row)(k:List T):List T:=[.func a.f (some (bx "s" l)) (B5 l w) (.var a.v (bx "v" l) (some a.b)::(DH w.us a.us++(if w.wi then[]else k.map (T.expr a.e))++[.tr a.t [] (bx "e" l) (if w.wi then k.map (T.expr a.e)else[])])) w.st false]
noncomputable def dO(J:Nat->iy):List Row->Nat->List T
 |[],_=>[]
 |w::Y,l=>tD (J l) l w (dO J Y (l+1))
noncomputable def il(J:Nat->iy):List Row->Nat->List Addr
 |[],_=>[]
 |_::Y,l=>(J l).f::(J l).t::il J Y (l+1)
variable{J:Nat->iy}
theorem Ti{c:Nat->iy}(Y:List Row):∀(l:Nat),(∀j,l<=j->J j=c j)->dO J Y l=dO c Y l:=fq (fun l f=>rfl) (fun w Y d l h=>Z (b:=dO J (w::Y) l) (a:=tD (J l) l w (dO J Y (l+1))) rfl (Z (d (l+1) fun j e=>h j (hH e)) (Z (h l (ai _)) rfl))) Y
theorem T3{c:Nat->iy}(Y:List Row):∀(l:Nat),(∀j,l<=j->J j=c j)->il J Y l=il c Y l:=fq (fun l g=>rfl) (fun w Y d l h=>Z (b:=il J (w::Y) l) (a:=(J l).f::(J l).t::il J Y (l+1)) rfl (Z (d (l+1) fun j e=>h j (hH e)) (Z (h l (ai _)) rfl))) Y
theorem JD{a:Addr}(e:H a=some o):H a≠none:=fun z=>jd (e.symm.trans z)
theorem Ie(h:aD H I){a:Addr}(z:H a≠none):I a≠none:=fun e=>z (h.none e)
theorem bw.n8{f d:Type}{r:f->d->Prop}{c:List f}{bs:List d}(h:bw r c bs):∀{i:Nat} {b:d},bs[i]?=some b->∃a,c[i]?=some a/\r a b:=
 h.ind (P:=fun c bs=>∀{i:Nat} {b:d},bs[i]?=some b->∃a,c[i]?=some a/\r a b) (fun e=>gU e) fun a b c bs g z j {i} {k} e=>by
  cases i with
  |zero=>exact⟨a,rfl,ag e▸g⟩|succ i=>exact j e
theorem Rr{a:Addr×Addr}(us:List (Nat×Nat)):∀(c:List (Addr×Addr)),us[c.length]?=some x->DH us (c++[a])=DH us c++[.expr a.1 (.name a.2 (Cd x.1 x.2))]:=fq (fun c e=>gU e) (fun y us d c=>gc c (fun e=>Z (ag e) rfl) fun b c e=>congrArg (List.cons _) (d c e)) us
structure eU(H:U)(r u:Addr)(ps:List Addr)(w:Row):Prop where
 ex:∃ep,H r=some (.dict [("twice",.bool w.tw),("strict",.bool w.st),("within",.bool w.wi),("uses",.ref u)] ep)
 hu:H u=some (.list (ps.map .ref))
 ps:bw (bW H) ps w.us
theorem bL.get{rl:Addr}{Y:List Row}{l:Nat}{w:Row}(h:bL H rl Y)(e:Y[l]?=some w):∃rs:List Addr,∃r u ps,H rl=some (.list (rs.map .ref))/\(rs.map V.ref)[l]?=some (.ref r)/\rs.length=Y.length/\eU H r u ps w:=Ad h.ex fun rs b a=>Ad (a.n8 e) fun r c d=>Br d.ex fun f u ps g i j=>⟨rs,r,u,ps,b,by refine Z (b9) (Z c ?_);rfl,a.length,⟨f,g⟩,i,j⟩
variable{H0:U}{rl r u nl bl cl:Addr}{l:Nat}{ts cs:List T}{w:Row}{ps:List Addr}
theorem eU.ext(h:eU H r u ps w)(e:aD H I):eU I r u ps w:=⟨h.ex.imp fun y z=>e _ _ z,e _ _ h.hu,h.ps.mono fun y y y z=>e _ _ z⟩
inductive q7(N:Addr)(H0:U)(rl r nl bl cl:Addr)(l:Nat)(t0:T)(us:List (Nat×Nat))(j:Nat)(H:U)(m:List V):Prop where
 |mk (a6 a7 a8:V) (as:List (Addr×Addr)):m=[.ref rl,ni l,.ref r,.ref nl,.ref bl,.ref cl,a6,a7,a8,.aa,.aa,.aa,.aa,.aa,.aa,.aa]->eX N H0 H nl bl cl l (t0::DH us as) []->as.length=j->q7 N H0 rl r nl bl cl l t0 us j H m
theorem JP{us:List (Nat×Nat)}{a:List (Addr×Addr)}:(DH us a).length<=us.length:=by
 unfold DH;exact Z (ac ..) (Z List.length_zip (qr _ _))
theorem AbH(c:Code X G k)(g:Bj X G la ns){t0:T}{us:List (Nat×Nat)}{as:List (Addr×Addr)}{a8:V}(s:eX k.N H0 H nl bl cl l (t0::DH us as) [])(hx:us[as.length]?=some x)(hu:x.1<10)(hs:x.2<=5)(hl:us.length<=3)
  (q:∀I m',q7 k.N H0 rl r nl bl cl l t0 us (as.length+1) I m'->Q .next I m'):Eg X (d+2) G H [.ref rl,ni l,.ref r,.ref nl,.ref bl,.ref cl,ni x.1,ni x.2,a8,.aa,.aa,.aa,.aa,.aa,.aa,.aa] Q:=by
 refine AL (FN (CW (FN (CW (Ao (e₂:=2) (AD (Aa rfl rfl) (Aa rfl rfl)) (Mh (d:=d) g hu hs fun H1 e1=>BB c (cy 2 d) (dd rfl:1<=aT) fun H2 a1 p1 n1=>BB c (cy 2 d) (dd rfl:1<=aT) fun H3 a2 p2 n2=>?_) (ai _))))));have s1:=s.up e1;have i1:=s1.node n1;have s2:=s1.up n1.ext;have i2:=s2.node n2;have s3:=s2.up n2.ext;refine Ib (Aa (v:=.ref bl) rfl rfl) s3.body (sz (Z (ac ..) (ab (cv (ab JP hl)) (dd rfl)))) (Aa (v:=.ref a2) rfl rfl) (q _ _ ⟨_,_,_,as++[(a2,a1)],rfl,?_,by refine Z ba ?_;rfl⟩);have:=s3.pU (t:=.expr a2 (.name a1 (Cd x.1 x.2))) ⟨i2,s2.is i1 n2.ext⟩;exact Z (Rr us as hx) this
theorem AaJ(c:Code X G k)(s:eX k.N H0 H nl bl cl l ts cs)(hr:eU H0 r u ps w)(hl:ts.length<=100){a6 a7 a8 a9 a10:V}{Q:V->U->Prop}
  (q:∀I f t,aD H0 I->(∀z,H z≠none->I z≠none)->Rep k.N (nw H0 I) (.func f (some (bx "s" l)) (B5 l w) (ts++[.tr t [] (bx "e" l) cs]) w.st false)->H f=none->H t=none->f≠t->I f≠none->I t≠none->Q (.ref f) I) :
  BQ X (d+2) G H [.ref rl,ni l,.ref r,.ref nl,.ref bl,.ref cl,a6,a7,a8,a9,a10,.aa,.aa,.aa,.aa,.aa] (fun fl I y=>Q fl.val I):=by
 refine O1 (Aa (v:=.ref bl) rfl rfl) s.body (FN (AX A4 (bq _) fun b0 hb0=>?_));have s1:=s.up (aD.set (o:=.list []) hb0);refine BR (n:=2) (Aa (v:=.ref nl) rfl rfl) s1.names rfl rfl _ (Aa (v:=.ref cl) rfl rfl _ (Af (v:=.none) _ (BB c (cy 2 d) (dd rfl:4<=aT) fun H2 t p n=>?_)));have s2:=s1.up n.ext;refine Bn s2.body (sz (Z (ac ..) (ab hl (dd rfl)))) ?_;have E1:aD H H2:=(aD.set hb0).trans n.ext;have i2:=s1.node n;have bb:b0≠bl:=(An hb0 s.body).symm;have bc:b0≠cl:=(An hb0 s.clause).symm;have tb:t≠bl:=(An n.fa s1.body).symm;refine AA (⟨_,rfl⟩:∃H3,H3=H2.set bl (.list (cI ts++[.ref t]))) fun H3 h3=>Z (ap h3) ?_;have k3:∀{z o},z≠bl->H2 z=some o->H3 z=some o:=fun n e=>by refine Z h3 (Z (U.aC _ _ n) ?_);exact e
 have b3:H3 bl=some (.list (cI ts++[.ref t])):=by refine Z h3 ?_;exact U.ak ..
 have D3:aD (GU H0 H2 bl cl) (nw H0 H3):=fun z o e=>by
  exact Bt (NT e) fun n0 n1 y e2=>Ij n0 (k3 n1 e2)
 have n3:=k3 s.pP s2.names;have E0:aD H0 H3:=fun z o e=>k3 (An s.fb e) (s2.ext z o e);have r3:=hr.ext E0;have lv:∀z,H z≠none->H3 z≠none:=fun z hz=>by
  by_cases e:z=bl
  ·exact Z e (JD b3)
  ·exact Z h3 (Z (U.aC _ _ e) (Ie E1 hz))
 have fin:∀H4 pl m4,H0 pl=none->aD H3 H4->m4=[.ref rl,ni l,.ref r,.ref nl,.ref bl,.ref cl,a6,a7,a8,a9,.ref pl,.aa,.aa,.aa,.aa,.aa]->H4 pl=some (.list ((B5 l w).map .str))->Ea X (d+2) G H4 m4 (fun fl I y=>Q fl.val I):=by
  rintro H4 pl _ hq e4 rfl hpl;refine AA r3.ex fun ep er=>Bh (KO c (cy 2 d) (BD (BR (n:=3) (Aa (v:=.ref nl) rfl rfl) (e4 _ _ n3) rfl rfl) (BD (Aa (v:=.ref pl) rfl rfl) (BD (Aa (v:=.ref bl) rfl rfl) (AD (Fu (Aa (v:=.ref r) rfl rfl) (e4 _ _ er) rfl) (Af (v:=.str "expr")))))) (dd rfl:5<=aT) fun H5 f p5 n5=>?_);have e5:=e4.trans n5.ext;have x5:aD (nw H0 H3) (nw H0 H5):=fun z o e=>Ij (Ii e).1 (e5 _ _ (Ii e).2);have d5:=D3.trans x5;have hf0:H f=none:=E1.none (by have:=e4.none n5.fa;rw[h3]at this;exact(AZ this).1);have hp0:H p5=none:=E1.none (by have:=e4.none n5.fp;rw[h3]at this;exact(AZ this).1);have hpl0:H0 pl=none:=hq;refine q H5 f t (E0.trans e5) (fun z hz=>Ie e5 (lv z hz)) ⟨pl,bl,⟨_,p5,Ij (s.ext.none hf0) n5.ea,rfl,rfl,Ij (s.ext.none hp0) n5.ep⟩,Ij hpl0 (n5.ext _ _ hpl),by refine Z (ap (GC ..)) ?_;exact Ij s.fb (e5 _ _ b3),bA.app.mpr ⟨s2.rep.ext d5,⟨b0,cl,d5.base.bF i2,Ij (s.ext.none hb0) (e5 _ _ (k3 bb (n.ext _ _ (U.ak ..)))),Ij s.fc (e5 _ _ (k3 s.oN.symm s2.clause)),trivial,s2.n7.ext d5⟩,trivial⟩⟩ hf0 (AZ n.fa).1 ?_ (JD n5.ea) (JD (e5 _ _ (k3 tb n.ea)));exact fun z=>jd ((e4 _ _ (k3 tb n.ea)).symm.trans (z▸n5.fa))
 refine AA r3.ex fun ep er=>?_;have tst:cP (Av (Ax (O 2) (Ae (.str "twice")))) H3 [.ref rl,ni l,.ref r,.ref nl,.ref bl,.ref cl,a6,a7,a8,a9,a10,.aa,.aa,.aa,.aa,.aa] w.tw:=AJ (Fu (Aa (v:=.ref r) rfl rfl) er rfl);have p0:Pv (Ax (O 3) (Ae (.int 0))) H3 [.ref rl,ni l,.ref r,.ref nl,.ref bl,.ref cl,a6,a7,a8,a9,a10,.aa,.aa,.aa,.aa,.aa] (.str (bx "p" l)):=BR (n:=0) (Aa (v:=.ref nl) rfl rfl) n3 rfl rfl;refine AL ?_;cases e:w.tw with
 |true=>
  rw[e]at tst;exact Ev tst (AX (BD p0 (AD Af p0)) (dd rfl:3<=aT) fun pl hpl=>fin _ pl _ (E0.none hpl) (aD.set hpl) rfl (by refine Z (U.ak ..) ?_;unfold B5;refine Z e ?_;rfl))
 |false=>
  rw[e]at tst;exact Es tst (AX (AD p0 Af) (dd rfl:2<=aT) fun pl hpl=>fin _ pl _ (E0.none hpl) (aD.set hpl) rfl (by refine Z (U.ak ..) ?_;unfold B5;refine Z e ?_;rfl))
variable{n:Nat}{As:WL}{R:V->U->Prop}{Y:List Row}
theorem Co(h:As H m fun vs a=>M9 (.list vs) vs.length a R):AF As H m R:=h
theorem KZ(h:As H m fun vs a=>M9 (.tup vs) vs.length a R):Bg As H m R:=h
structure rQ(N:Addr)(H I:U)(J:Nat->iy)(Y:List Row)(l:Nat):Prop where
 ext:aD H I
 rep:bA N (nw H I) (dO J Y l)
 nd:(il J Y l).Nodup
 fr:∀a∈il J Y l,H a=none/\I a≠none
 len:∀(j:Nat) (w:Row),Y[j]?=some w->(J (l+j)).us.length=w.us.length
def ux(X:Cx)(G:String->V)(k:fW)(n:Nat):Prop:=∀{d:Nat} {H:U} {rl:Addr} {Y:List Row} {l:Nat} {Q:V->U->Prop},bL H rl Y->dY Y->l+n+1=Y.length->(∀I a,rQ k.N H I a (Y.drop l) l->Q (.ref (a l).f) I)->aG X (d+n+3) H (G "_law_function") [.ref rl,ni l] Q
def HS(l:Nat)(w:Row)(v b e:Addr)(us:List (Addr×Addr))(inn:List T):List T:=.var v (bx "v" l) (some b)::(DH w.us us++(if w.wi then[]else inn.map (T.expr e)))
noncomputable def Kt(w:Row)(e:Addr)(inn:List T):List T:=if w.wi then inn.map (T.expr e)else[]
theorem Ow(c:Code X G k){v b e:Addr}{us:List (Addr×Addr)}{inn:List Row}(s:eX k.N H0 H nl bl cl l (HS l w v b e us (dO J inn (l+1))) (Kt w e (dO J inn (l+1))))(D:eU H0 r u ps w)(F:w.us.length<=3)(o:us.length=w.us.length)(p:∀(j:Nat) (w:Row),inn[j]?=some w->(J (l+1+j)).us.length=w.us.length)(H':(il J inn (l+1)).Nodup)(i:∀a∈il J inn (l+1),H0 a=none/\H a≠none)
  {ad K L xs x:V} {Q:V->U->Prop} (q:∀I J,rQ k.N H0 I J (w::inn) l->Q (.ref (J l).f) I) :
  BQ X (d+2) G H [.ref rl,ni l,.ref r,.ref nl,.ref bl,.ref cl,ad,K,L,xs,x,.aa,.aa,.aa,.aa,.aa] (fun fl I N=>Q fl.val I):=by
 have Ab:(dO J inn (l+1)).length<=1:=by
  cases inn with
  |nil=>exact bq _|cons w Y=>exact ai _
 refine AaJ c s D ?_ fun I f t E P R A B S AH aj=>?_
 ·unfold HS;have W:=@JP w.us us;have ws:(if w.wi=true then[]else(dO J inn (l+1)).map (T.expr e)).length<=1:=by
   cases w.wi with
   |true=>exact bq _|false=>exact ab (ct (ac _)) Ab
  exact Z d4 (Z ba (ab (cv (cc (ab W F) ws)) (dd rfl)))
 ·have m:∀j,l+1<=j->J j=(fun j=>if j=l then(⟨f,v,b,t,e,us⟩)else J j) j:=fun j n=>(if_neg (mT n)).symm;have h:(fun j=>if j=l then(⟨f,v,b,t,e,us⟩)else J j) l=⟨f,v,b,t,e,us⟩:=if_pos rfl;have C:=Ti inn (l+1) m;have y:=T3 inn (l+1) m;generalize(fun j=>if j=l then(⟨f,v,b,t,e,us⟩)else J j)=ad' at C y h m;have:=q I ad' ⟨E,?_,?_,?_,?_⟩
  ·rw[h]at this;exact this
  ·unfold dO;exact Z h (Z (ap C) ⟨R,trivial⟩)
  ·unfold il;refine Z h (Z (ap y) ?_);exact cr.mpr ⟨fun z=>by
    rcases bg.mp z with z|z
    ·exact S z
    ·exact(i _ z).2 A,cr.mpr ⟨fun z=>(i _ z).2 B,H'⟩⟩
  ·unfold il;refine Z h (Z (ap y) ?_);intro a g;rcases bg.mp g with g|g
   ·exact Z g ⟨s.ext.none A,AH⟩
   ·rcases bg.mp g with g|g
    ·exact Z g ⟨s.ext.none B,aj⟩
    ·exact⟨(i _ g).1,P _ (i _ g).2⟩
  ·intro j rL n;cases j with
   |zero=>refine Z (lh ..) (Z h (Z (ap (ag n)) ?_));exact o
   |succ j=>refine Z (show l+(j+1)=l+1+j by exact ap (iv l j)) (Z (ap (m _ (bp _ _))) ?_);exact p j rL n
theorem Adn(c:Code X G k)(ih:ux X G k n)(rw':bL H0 rl Y)(ok:dY Y)(hl:l+n+2=Y.length)(hw:Y[l]?=some w)(hr:eU H0 r u ps w){v b:Addr}{us:List (Addr×Addr)}(s:eX k.N H0 H nl bl cl l (.var v (bx "v" l) (some b)::DH w.us us) [])(hul:us.length=w.us.length)
  {a6 a7 a8:V} {Q:V->U->Prop} (q:∀I J,rQ k.N H0 I J (w::Y.drop (l+1)) l->Q (.ref (J l).f) I) :
  az (Eh X (d+n+3) G) (BQ X (d+n+3) G) H [.ref rl,ni l,.ref r,.ref nl,.ref bl,.ref cl,a6,a7,a8,.aa,.aa,.aa,.aa,.aa,.aa,.aa] (fun fl I x=>Q fl.val I):=by
 have hu:w.us.length<=3:=(ok.r l w hw).n3;have hdr:∃w' ws',Y.drop (l+1)=w'::ws':=by
  cases e:Y.drop (l+1)with
  |nil=>exact absurd (kM.mp e) (Nat.not_le.mpr (Z (ap hl) (qo (fR (bp l n)))))|cons w' ws'=>exact⟨_,_,rfl⟩
 refine ZD (AL (FN (CW (Ao (d:=d+n) (e₂:=3) (AD (Aa rfl rfl) (B9 (b:=1) (Aa rfl rfl) Af)) (ih (d:=d) (l:=l+1) (rw'.kp s.ext.kp) ok (uG hl) fun H1 J xs=>BB c (cy 2 _) (dd rfl:1<=aT) fun H2 e p2 n2=>?_) (ai _)))));have s2:=(s.up xs.ext).up n2.ext;have nb:∀z,H z=none->z≠bl/\z≠cl:=fun z e=>⟨fun q=>jd ((q▸s.body).symm.trans e),fun q=>jd ((q▸s.clause).symm.trans e)⟩
 have x2:aD (nw H H1) (GU H0 H2 bl cl):=fun z o e=>by
  exact aV (Ii e) fun n0 e1=>Jd (s.ext.none n0) (n2.ext _ _ e1) (nb z n0).1 (nb z n0).2
 have i2:bh k.N (GU H0 H2 bl cl) e "Expr" [.ref (J (l+1)).f]:=(s.up xs.ext).node n2;refine CL hdr fun w' ws' hd=>?_;obtain⟨tf,htf⟩:∃tf,dO J (Y.drop (l+1)) (l+1)=[tf]/\tf.aq=(J (l+1)).f:=by refine Z hd ?_;exact⟨_,rfl,rfl⟩
 have rE:Rep k.N (GU H0 H2 bl cl) (.expr e tf):=⟨by show bh _ _ _ _ [.ref tf.aq];refine Z htf.2 ?_;exact i2,by have:=xs.rep.ext x2;rw[htf.1]at this;exact this.1⟩
 have ex2:aD H H2:=xs.ext.trans n2.ext;refine AA hr.ex fun ep er=>?_;have tst:cP (Av (Ax (O 2) (Ae (.str "within")))) H2 [.ref rl,ni l,.ref r,.ref nl,.ref bl,.ref cl,a6,a7,a8,.ref e,.aa,.aa,.aa,.aa,.aa,.aa] w.wi:=AJ (Fu (Aa (v:=.ref r) rfl rfl) (s2.ext _ _ er) rfl);have fr2:∀a∈il J (Y.drop (l+1)) (l+1),H0 a=none/\H2 a≠none:=fun a ha=>⟨s.ext.none (xs.fr a ha).1,Ie n2.ext (xs.fr a ha).2⟩
 have fr3:∀{y:Addr} {o:bI},∀a∈il J (Y.drop (l+1)) (l+1),H0 a=none/\(H2.set y o) a≠none:=fun{y o} a ha=>⟨(fr2 a ha).1,fun z=>(fr2 a ha).2 (AZ z).1⟩
 cases hwi:w.wi with
 |true=>
  rw[hwi]at tst;refine Dt tst (Ib (Aa (v:=.ref cl) rfl rfl) s2.clause (bq _) (Aa (v:=.ref e) rfl rfl) (jQ ?_));have s3:=s2.sE rE;refine Ow (d:=d+n+1) (J:=J) (v:=v) (b:=b) (e:=e) (us:=us) (inn:=Y.drop (l+1)) c ?_ hr hu hul xs.len xs.nd fr3 q;unfold HS Kt;refine Z hwi (Z htf.1 ?_);simp only[if_true,aS,dr,List.map_nil];exact s3
 |false=>
  rw[hwi]at tst;refine iB tst (Ib (Aa (v:=.ref bl) rfl rfl) s2.body ?_ (Aa (v:=.ref e) rfl rfl) (jQ ?_))
  ·exact sz (Z (ac ..) (ab (cv (ab JP hu)) (dd rfl)))
  have s3:=s2.pU rE;refine Ow (d:=d+n+1) (J:=J) (v:=v) (b:=b) (e:=e) (us:=us) (inn:=Y.drop (l+1)) c ?_ hr hu hul xs.len xs.nd fr3 q;unfold HS Kt;exact Z hwi (Z htf.1 s3)
theorem Gs{a:Type}{Y:List a}{w:a}(h:Y[l]?=some w):Y.drop l=w::Y.drop (l+1):=AA (av.mp h) fun b c=>Z (ry b) (Z c rfl)
theorem SV(c:Code X G k)(g:Bj X G la ns)(L:bL H0 rl Y)(ok:dY Y)(E:Y[l]?=some w){z:T}(a:eU H0 r u ps w)(s:eX k.N H0 H nl bl cl l [z] [])
  (q:∀I n o t b,eX k.N H0 I nl bl cl l (z::DH w.us b) []->b.length=w.us.length->Ed X (d+2) G I [.ref rl,ni l,.ref r,.ref nl,.ref bl,.ref cl,n,o,t,.aa,.aa,.aa,.aa,.aa,.aa,.aa] Q) :
  CM X (d+2) G H [.ref rl,ni l,.ref r,.ref nl,.ref bl,.ref cl,.aa,.aa,.aa,.aa,.aa,.aa,.aa,.aa,.aa,.aa] Q:=by
 refine AA a.ex fun S xs=>?_;have A:=(av.mp E).1;have F:=ok.r l w E;have Ab:=ok.n5;refine J9 (Fu (Aa rfl rfl) (s.ext _ _ xs) rfl) (s.ext _ _ a.hu) (AW (q7 k.N H0 rl r nl bl cl l z w.us) ?_ ?_ ⟨_,_,_,[],rfl,s,rfl⟩)
 ·rintro j x H' m f ⟨n,o,t,b,rfl,h,v⟩;have i:=a.ext h.ext;obtain⟨p,P,B⟩:∃p,ps[j]?=some p/\x=.ref p:=by
   rw[b9]at f;cases e:ps[j]? with
   |none=>rw[e]at f;cases f
   |some p=>rw[e]at f;exact⟨p,rfl,(ag f).symm⟩
  refine Ad (i.ps.get P) fun y C D=>?_;have ad:=F.u y (ay C);refine Z B ⟨i.hu,_,CB D rfl,fun K R W=>?_⟩;rw[<-v]at C;exact AbH c g h C (ur A Ab ad) ad.2 F.n3 (Z v R)
 ·rintro H' m ⟨n,o,t,b,rfl,h,v⟩;exact⟨(a.ext h.ext).hu,jQ (q H' n o t b h (Z v (Z (ac ..) (Z a.ps.length rfl))))⟩
theorem Pt(c:Code X G k)(g:Bj X G la ns)(rw':bL H rl Y)(ok:dY Y)(hw:Y[l]?=some w){Q:V->U->Prop}
  (q:∀I r u ps nl bl cl v b,eU H r u ps w->eX k.N H I nl bl cl l [.var v (bx "v" l) (some b)] []->CM X (d+2) G I [.ref rl,ni l,.ref r,.ref nl,.ref bl,.ref cl,.aa,.aa,.aa,.aa,.aa,.aa,.aa,.aa,.aa,.aa] (fun fl I y=>Q fl.val I)) :
  aG X (d+3) H (G "_law_function") [.ref rl,ni l] Q:=by
 have lws:l<Y.length:=(av.mp hw).1;have h5:=ok.n5;obtain⟨rs,r,u,ps,hrl,hrs,hrn,hr⟩:=rw'.get hw;refine g.function.call rfl (Fh (Gf (Aa rfl rfl) hrl (Aa rfl rfl) hrs (Xx h5 lws) _ (Ao (AG (Aa rfl rfl)) (Fq (d:=d+1) g (uc lws h5) fun nl hnl=>fun r0 hr0=>AA (⟨_,rfl⟩:∃H1,H1=(H.set nl (.list ((nms l).map .str))).set r0 (.tup [.ref r,.ref nl])) fun H1 h1=>Z (ap h1) ?_) (ai _))));have E1:aD H H1:=Z h1 ((aD.set hnl).trans (aD.set hr0));have e1:H1 nl=some (.list ((nms l).map .str)):=by refine Z h1 ?_;exact Ah hr0 (U.ak ..)
 refine Fh (Co (CW (FN (CW (Co (CW (KZ (BR (Aa rfl rfl) e1 rfl rfl _ (CW (KO c (cy 2 d) (AG (Af)) (dd rfl:1<=aT) fun H2 b pb nb=>⟨(dd rfl),fun pr hpr=>⟨(dd rfl),fun dl hdl=>BB c (cy 2 d) (dd rfl:1<=aT) fun H5 v pv nv=>⟨(dd rfl),fun bl hbl=>AX A4 (bq _) fun cl hcl=>fun r2 hr2=>?_⟩⟩⟩))))))))));have E5:aD H1 H5:=((nb.ext.trans (aD.set hpr)).trans (aD.set hdl)).trans nv.ext;have E6:aD H5 ((((H5.set bl (.list [.ref v])).set cl (.list [])).set r2 (.tup [.ref bl,.ref cl]))):=((aD.set hbl).trans (aD.set hcl)).trans (aD.set hr2);have fb:H bl=none:=E1.none (E5.none hbl);have fc:H cl=none:=E1.none (E5.none (AZ hcl).1);have oN:bl≠cl:=(AZ hcl).2.symm;have eb:((((H5.set bl (.list [.ref v])).set cl (.list [])).set r2 (.tup [.ref bl,.ref cl]))) bl=some (.list [.ref v]):=Ah hr2 (Ah hcl (U.ak ..));have ec:((((H5.set bl (.list [.ref v])).set cl (.list [])).set r2 (.tup [.ref bl,.ref cl]))) cl=some (.list []):=Ah hr2 (U.ak ..);generalize((((H5.set bl (.list [.ref v])).set cl (.list [])).set r2 (.tup [.ref bl,.ref cl])))=H6 at E6 eb ec ⊢;have nw6:∀{z o},H1 z=none->H5 z=some o->GU H H6 bl cl z=some o:=fun n e=>Jd (E1.none n) (E6 _ _ e) (An hbl e) (An (AZ hcl).1 e);have fpr:=nb.ext.none hpr;have fdl:=nb.ext.none (AZ hdl).1;have fv:=nb.ext.none ((AZ (AZ nv.fa).1).1);have fpv:=nb.ext.none ((AZ (AZ nv.fp).1).1);have E25:=((aD.set hpr).trans (aD.set hdl)).trans nv.ext;refine q H6 r u ps nl bl cl v b hr ⟨(E1.trans E5).trans E6,fb,fc,oN,E6 _ _ (E5 _ _ e1),An hbl (E5 _ _ e1),An (AZ hcl).1 (E5 _ _ e1),eb,ec,⟨⟨dl,pr,⟨_,pv,nw6 fv nv.ea,rfl,rfl,nw6 fpv nv.ep⟩,nw6 fdl (nv.ext _ _ (U.ak ..)),nw6 fpr (nv.ext _ _ (Ah hdl (U.ak ..))),fun b' hb'=>?_⟩,trivial⟩,trivial⟩;obtain rfl:=ag hb';exact⟨_,pb,nw6 nb.fa (E25 _ _ nb.ea),rfl,rfl,nw6 nb.fp (E25 _ _ nb.ep)⟩
theorem Q1(c:Code X G k)(g:Bj X G la ns)(n:Nat):ux X G k n:=by
 induction n with
 |zero=>
  intro d H rl Y l Q f ok p q;refine AA (⟨_,ck (rU p)⟩:∃w,Y[l]?=some w) fun w h=>?_;have F:=ok.n5;obtain⟨K,_,_,_,x,_,o,_⟩:=f.get h;refine Pt (d:=d) c g f ok h fun L r u ps nl bl cl v b A s=>SV c g f ok h A s fun H' B C D ad z y=>?_;have t:cP (Ap X .Lt (A1 .Add (O 1) (Ae (.int 1))) (Ai X (d+2) (G "len") (Ac (O 0) Ag))) H' [.ref rl,ni l,.ref r,.ref nl,.ref bl,.ref cl,B,C,D,.aa,.aa,.aa,.aa,.aa,.aa,.aa] (decide (l+1<Y.length)):=
   aB (B9 (b:=1) (Aa rfl rfl) Af) (by have:=C9 (d:=d+2) (m:=[.ref rl,ni l,.ref r,.ref nl,.ref bl,.ref cl,B,C,D,.aa,.aa,.aa,.aa,.aa,.aa,.aa]) c (Aa (i:=0) (v:=.ref rl) rfl rfl) (z.ext _ _ x) (sz (Z (ac ..) (Zb F o)));rw[ac,o]at this;exact this) (QZ _ _ _)
  rw[decide_eq_false (zK p)]at t;have xs:=iO (ct (_root_.id (ap p)));have E:=Gs h;rw[xs]at E;refine Bs t (Ow (d:=d) (J:=fun W=>⟨v,v,v,v,v,[]⟩) (v:=v) (b:=b) (e:=v) (us:=ad) (inn:=[]) c ?_ A (ok.r l w h).n3 y (fun j w e=>gU e) d0 (fun a N=>absurd N am) (Z (ap E) q));unfold HS Kt;cases w.wi with
  |true=>refine Z (if_pos rfl) (Z (aS ..) ?_);exact z
  |false=>refine Z (if_neg ax) ?_;exact Z (aS ..) z
 |succ n Ab=>
  intro d H rl Y l Q f ok p q;refine AA (⟨_,ck (vU p)⟩:∃w,Y[l]?=some w) fun w h=>?_;have F:=ok.n5;obtain⟨K,_,_,_,x,_,o,_⟩:=f.get h;have E:=Gs h;refine Pt (d:=d+n+1) c g f ok h fun L r u ps nl bl cl v b A s=>SV (d:=d+n+1) c g f ok h A s fun H' B C D ad z y=>?_;have t:cP (Ap X .Lt (A1 .Add (O 1) (Ae (.int 1))) (Ai X (d+n+1+2) (G "len") (Ac (O 0) Ag))) H' [.ref rl,ni l,.ref r,.ref nl,.ref bl,.ref cl,B,C,D,.aa,.aa,.aa,.aa,.aa,.aa,.aa] (decide (l+1<Y.length)):=
   aB (B9 (b:=1) (Aa rfl rfl) Af) (by have:=C9 (d:=d+n+1+2) (m:=[.ref rl,ni l,.ref r,.ref nl,.ref bl,.ref cl,B,C,D,.aa,.aa,.aa,.aa,.aa,.aa,.aa]) c (Aa (i:=0) (v:=.ref rl) rfl rfl) (z.ext _ _ x) (sz (Z (ac ..) (Zb F o)));rw[ac,o]at this;exact this) (QZ _ _ _)
  rw[decide_eq_true (yl p)]at t;exact EU t (Adn c Ab f ok (Nat.add_right_cancel (congrFun (congrArg HAdd.hAdd p) la)) h A z y (Z (ap E) q))
noncomputable def TR(Y:List Row)(u:Nat):Bool:=((Y[u]?).map (·.wi)).getD false
def D7(Y:List Row)(l:Nat)(x:Nat×Nat):Option (Nat×Nat):=
 if(decide (x.2=5)||((decide (x.2=2)&&((decide (x.1=l)||(!TR Y x.1||false))&&true))||false))=true then none else if x.2=4 then some (l,4)else some x
structure Use where
 (l:Nat) (y:String) (o:Option (Nat×Nat))
def B7(Y:List Row)(l:Nat)(w:Row):List Use:=⟨l,bx "v" l,some (l,1)⟩::w.us.map fun x=>⟨l,Cd x.1 x.2,D7 Y l x⟩
noncomputable def Aw(Y:List Row):List Row->Nat->List Use
 |[],_=>[]
 |w::a,l=>B7 Y l w++Aw Y a (l+1)
theorem MX :∀(a:List Row) (l:Nat),Aw Y (a++[w]) l=Aw Y a l++B7 Y (l+a.length) w:=by
 intro b;induction b with
 |nil=>
  intro l;show B7 Y l w++[]=_;refine Z (aS ..) ?_;rfl
 |cons _ a c=>
  intro l;show B7 Y l _++Aw Y (a++[w]) (l+1)=_;refine Z (c (l+1)) (Z (ap (ci ..)) (Z d4 (Z (lS ..) (Z (dn ..) ?_))));rfl
inductive f9(H:U):V->Option (Nat×Nat)->Prop where
 |none:f9 H .none none
 |some (a:Addr) (x:Nat×Nat):bW H a x->f9 H (.ref a) (some x)
structure jk(H:U)(p:Addr)(z:Use):Prop where
 ex:∃v,H p=some (.tup [ni z.l,.str z.y,v])/\f9 H v z.o
def jH(H I:U):Prop:=∀a b,H a=some (.tup b)->I a=some (.tup b)
end
section
variable{k:fW}{H0 H I:U}{X:Cx}{d n:Nat}{G:String->V}{la:Addr}{ns:List Int}{A B:WE}{S T:WT}{m:List V}{b b':Bool}{rl:Addr}{l:Nat}{w:Row}{Y:List Row}
theorem f9.tk{v:V}{o:Option (Nat×Nat)}(h:f9 H v o)(e:jH H I):f9 I v o:=by
 cases h with
 |none=>exact .none|some a x p=>exact .some a x (e _ _ p)
theorem jk.tk{p:Addr}{z:Use}(h:jk H p z)(e:jH H I):jk I p z:=⟨h.ex.imp fun v q=>⟨e _ _ q.1,q.2.tk e⟩⟩
theorem aD.tk(h:aD H I):jH H I:=fun a b e=>h a _ e
theorem jH.set{y:Addr}{M:List V}{o:bI}(e:H y=some (.list M)):jH H (H.set y o):=fun a b q=>by refine Z (U.aC _ _ (Db q e rfl)) ?_;exact q
theorem jH.trans{H'':U}(h:jH H I)(c:jH I H''):jH H H'':=fun a b e=>c a b (h a b e)
theorem GJ(a:cP S H m b)(c:cP T H m b'):cP (Bq S T) H m (b||b'):=by
 cases b with
 |true=>exact SQ a|false=>exact Du a c
theorem fQ(a:cP S H m b)(c:cP T H m b'):cP (AP S T) H m (b&&b'):=by
 cases b with
 |true=>exact bH a c|false=>exact A0 a
theorem Adp(g:Bj X G la ns)(rw':bL H rl Y){x:Nat×Nat}(hx:x.1<Y.length)(hn:Y.length<=1000){Q:V->U->Prop}(q:∀I v,aD H I->f9 I v (D7 Y l x)->Q v I):aG X (d+1) H (G "_law_met") [.ref rl,ni l,ni x.1,ni x.2] Q:=by
 refine AA (⟨_,ck hx⟩:∃w,Y[x.1]?=some w) fun w hw=>?_;obtain⟨rs,r,u,ps,hrl,hrs,hrn,hr⟩:=rw'.get hw;obtain⟨ep,er⟩:=hr.ex;have wi:TR Y x.1=w.wi:=by unfold TR;rw[hw];rfl
 have p1:∀{H},Pv (O 1) H [.ref rl,ni l,ni x.1,ni x.2] (ni l):=Aa rfl rfl;have p2:∀{H},Pv (O 2) H [.ref rl,ni l,ni x.1,ni x.2] (ni x.1):=Aa rfl rfl;have p3:∀{H},Pv (O 3) H [.ref rl,ni l,ni x.1,ni x.2] (ni x.2):=Aa rfl rfl;have t:=GJ (aB (X:=X) (op:=.Eq) p3 (Af (v:=ni 5)) (Ff (H:=H) X.cm _ _)) (GJ (fQ (aB (X:=X) (op:=.Eq) p3 (Af (v:=ni 2)) (Ff X.cm _ _)) (fQ (GJ (aB (X:=X) (op:=.Eq) p2 p1 (Ff X.cm _ _)) (GJ (IP (AJ (c:=w.wi) (Fu (y:="within") (Gf (b:=x.1) (Aa (i:=0) (v:=.ref rl) rfl rfl) hrl p2 hrs (zJ hx hn)) er rfl))) Ho)) JF)) Ho);rw[<-wi]at t;cases e:(decide (x.2=5)||((decide (x.2=2)&&((decide (x.1=l)||(!TR Y x.1||false))&&true))||false))with
 |true=>
  rw[e]at t;exact g.met.call rfl (EU t (NM Af (q H _ (aD.refl H) (by unfold D7;rw[if_pos e];exact .none))))
 |false=>
  rw[e]at t;have t4:=aB (X:=X) (op:=.Eq) p3 (Af (v:=ni 4)) (Ff (H:=H) X.cm _ _);refine g.met.call rfl (Bs t (Bh ?_));have fin:D7 Y l x=if x.2=4 then some (l,4)else some x:=by unfold D7;rw[if_neg (by rw[e];exact ax)]
  by_cases e4:x.2=4
  ·rw[decide_eq_true e4]at t4;exact Ev t4 (bV (AD p1 (Af (v:=ni 4))) (dd rfl:2<=aT) fun r hr=>q _ _ (aD.set hr) (by rw[fin,if_pos e4];exact .some r (l,4) (U.ak ..)))
  ·rw[decide_eq_false e4]at t4;exact Es t4 (bV (AD p2 p3) (dd rfl:2<=aT) fun r hr=>q _ _ (aD.set hr) (by rw[fin,if_neg e4];exact .some r x (U.ak ..)))
end
structure eQ(H I:U)(fl:Addr)(us:List Use):Prop where
 off:bK (fun a=>a=fl) H I
 ex:∃ps:List Addr,I fl=some (.list (ps.map .ref))/\bw (jk I) ps us
section
variable{k:fW}{H0 H I:U}{X:Cx}{d n:Nat}{G:String->V}{la:Addr}{ns:List Int}{A B:WE}{S T:WT}{m:List V}{rl fl:Addr}{l:Nat}{w:Row}{Y:List Row}{us:List Use}
theorem eQ.ext(s:eQ H0 H fl us)(e:aD H I):eQ H0 I fl us:=Ad s.ex fun b c d=>⟨fun a o n q=>e _ _ (s.off a o n q),b,e _ _ c,d.mono fun y y y z=>z.tk e.tk⟩
theorem eQ.add(s:eQ H0 H fl us)(g:H0 fl=none)(c:us.length<=1000){p:Addr}{z:Use}(e:jk H p z){Q:V->U->Prop}(q:∀I,eQ H0 I fl (us++[z])->Q .none I):Calls X d H (.blt "list.append") [.ref fl,.ref p] Q:=by
 refine Ad s.ex fun f a b=>Bn a (sz (Z (ac ..) (Z b.length (ab c (dd rfl))))) (q _ ⟨s.off.set rfl,f++[p],?_,?_⟩)
 ·refine Z (U.ak ..) (Z bP ?_);rfl
 ·exact(b.mono fun y y y z=>z.tk (jH.set a)).app ⟨e.tk (jH.set a),trivial⟩
inductive Zm(H0:U)(rl fl:Addr)(Y:List Row)(l:Nat)(r:Addr)(w:Row)(us:List Use)(j:Nat)(H:U)(m:List V):Prop where
 |mk (a4 a5:V):m=[.ref rl,.ref fl,ni l,.ref r,a4,a5,.aa,.aa,.aa,.aa]->eQ H0 H fl (us++(w.us.take j).map fun x=>⟨l,Cd x.1 x.2,D7 Y l x⟩)->Zm H0 rl fl Y l r w us j H m
theorem UO(g:Bj X G la ns)(rw':bL H0 rl Y)(ok:dY Y)(hf:H0 fl=none)(hw:Y[l]?=some w){r u:Addr}{ps:List Addr}(hr:eU H0 r u ps w)(hl:us.length<=100)(s:eQ H0 H fl us){a4 a5:V}{Q:bu->U->List V->Prop}
  (q:∀I a4 a5,eQ H0 I fl (us++B7 Y l w)->Q .next I [.ref rl,.ref fl,ni l,.ref r,a4,a5,.aa,.aa,.aa,.aa]):Eb X (d+2) G H [.ref rl,.ref fl,ni l,.ref r,a4,a5,.aa,.aa,.aa,.aa] Q:=by
 have lws:l<Y.length:=(av.mp hw).1;have h5:=ok.n5;have ro:=ok.r l w hw;refine Ad s.ex fun ps0 h1 h2=>?_;have nf:∀{z o},H0 z=some o->z≠fl:=fun e=>An hf e;refine O1 (Aa (v:=.ref fl) rfl rfl) h1 (KZ (Aa (v:=ni l) rfl rfl _ (Cp (Ao (d:=d+1) (e₂:=1) (AG (Aa rfl rfl)) (Fq (d:=d+1) g (uc lws h5) fun nl hnl=>Af (v:=ni 1) _ ⟨.str (bx "v" l),.list (U.ak ..) (dd rfl) (dd rfl) rfl,?_⟩) (ai _)))));have s1:=s.ext (aD.set (o:=.list ((nms l).map .str)) hnl);refine bV (AD (Aa (v:=ni l) rfl rfl) (Af (v:=ni 1))) (dd rfl:2<=aT) fun t1 ht1=>⟨(dd rfl:3<=aT),fun t2 ht2=>?_⟩
 have s2:=(s1.ext (aD.set (o:=.tup [ni l,ni 1]) ht1)).ext (aD.set (o:=.tup [ni l,.str (bx "v" l),.ref t1]) ht2);refine s2.add hf (ab hl (dd rfl)) (z:=⟨l,bx "v" l,some (l,1)⟩) ⟨.ref t1,U.ak ..,.some t1 (l,1) (Ah ht2 (U.ak ..))⟩ fun H3 s3=>AA hr.ex fun ep er=>Lo (Fu (Aa (v:=.ref r) rfl rfl) (s3.off _ _ (nf er) er) rfl) (s3.off _ _ (nf hr.hu) hr.hu) (AW (Zm H0 rl fl Y l r w (us++[⟨l,bx "v" l,some (l,1)⟩])) ?_ ?_ ⟨_,_,rfl,by refine Z List.take_zero (Z List.map_nil (Z (aS ..) ?_));exact s3⟩)
 ·rintro j x H4 m hx ⟨a4,a5,rfl,s4⟩;obtain⟨p,hp,hxp⟩:∃p,ps[j]?=some p/\x=.ref p:=by
   rw[b9]at hx;cases e:ps[j]? with
   |none=>rw[e]at hx;cases hx
   |some p=>rw[e]at hx;exact⟨p,rfl,(ag hx).symm⟩
  refine Ad (hr.ps.get hp) fun y hy pis=>?_;have uy:=ro.u y (ay hy);refine Z hxp ⟨s4.off _ _ (nf hr.hu) hr.hu,_,CB (s4.off _ _ (nf pis) pis) rfl,fun K hK t=>(Ad s4.ex fun ps4 h41 h42=>Rk (Aa (v:=.ref fl) rfl rfl) h41 (KZ (Aa (v:=ni l) rfl rfl _ (Ao (d:=d) (e₂:=2) (AD (Aa rfl rfl) (Aa rfl rfl)) (Mh (d:=d) g (ur lws h5 uy) uy.2 fun H5 e5=>?_) (ai _)))))⟩;have s5:=s4.ext e5;have rw5:bL H5 rl Y:=by
   exact Ad rw'.ex fun rs q1 q2=>⟨rs,s5.off _ _ (nf q1) q1,q2.mono fun a b t z=>(Br z.ex fun ep u ps z1 z2 z3=>⟨ep,u,ps,s5.off _ _ (nf z1) z1,s5.off _ _ (nf z2) z2,z3.mono fun a b t z=>s5.off _ _ (nf z) z⟩)⟩
  refine CW (Ao (d:=d) (e₂:=2) (BD (Aa (v:=.ref rl) rfl rfl) (BD (Aa (v:=ni l) rfl rfl) (AD (Aa (v:=ni y.1) rfl rfl) (Aa (v:=ni y.2) rfl rfl)))) (Adp (d:=d) g rw5 (x:=y) (wN lws uy) (xr h5) fun H6 v e6 mv=>⟨(dd rfl:3<=aT),fun t2 ht2=>?_⟩) (dd rfl));have s6:=(s5.ext e6).ext (aD.set (o:=.tup [ni l,.str (Cd y.1 y.2),v]) ht2);refine s6.add hf ?_ (z:=⟨l,Cd y.1 y.2,D7 Y l y⟩) ⟨v,U.ak ..,mv.tk (aD.set ht2).tk⟩ fun H7 s7=>hK _ _ ⟨_,_,rfl,?_⟩
  ·exact Z ba (Z ba (Z (ac ..) (Z mf (ab (cc (cK hl 1) (ab (qr _ _) ro.n3)) (dd rfl)))))
  ·exact Z (AK hy) (Z bP (Z (ap (ci ..)) s7))
 ·rintro H4 m ⟨a4,a5,rfl,s4⟩;refine⟨s4.off _ _ (nf hr.hu) hr.hu,q _ _ _ ?_⟩;rw[ac,hr.ps.length,dp,ci]at s4;exact s4
inductive VD(H0:U)(rl fl:Addr)(Y:List Row)(j:Nat)(H:U)(m:List V):Prop where
 |mk (a2 a3 a4 a5:V):m=[.ref rl,.ref fl,a2,a3,a4,a5,.aa,.aa,.aa,.aa]->eQ H0 H fl (Aw Y (Y.take j) 0)->VD H0 rl fl Y j H m
theorem IX(a:List Row):∀(l:Nat),(∀w∈a,w.us.length<=3)->(Aw Y a l).length<=4*a.length:=fq (fun l h=>bq _) (fun w a b l h=>by
 exact Z ba (ab (cc (cv (Z (ac ..) (h w (.head _)))) (b (l+1) fun w q=>h w (.tail _ q))) (ct (ds ..)))) a
theorem dY.u3(ok:dY Y):∀w∈Y,w.us.length<=3:=fun w a=>by
 exact AA (List.mem_iff_getElem?.mp a) fun i b=>(ok.r i w b).n3
theorem Rw(g:Bj X G la ns)(c:bL H rl Y)(ok:dY Y){Q:V->U->Prop}(q:∀I fl ps,aD H I->I fl=some (.list (ps.map .ref))->bw (jk I) ps (Aw Y Y 0)->Q (.ref fl) I):aG X (d+3) H (G "_law_all_uses") [.ref rl] Q:=by
 refine Ad c.ex fun A b f=>?_;have T:=ok.n5;refine g.nW.call rfl (AL (AX A4 (bq _) fun fl k=>?_));have l:∀{z o},H z=some o->z≠fl:=fun e=>An k e;refine Lz (Aa rfl rfl) (Ah k b) (AW (VD H rl fl Y) ?_ ?_ ⟨_,_,_,_,rfl,⟨fun a o n e=>Ah k e,[],U.ak ..,trivial⟩⟩)
 ·rintro j x B m h ⟨E,F,C,D,rfl,s⟩;obtain⟨r,t,v⟩:∃p,A[j]?=some p/\x=.ref p:=by
   rw[b9]at h;cases e:A[j]? with
   |none=>rw[e]at h;cases h
   |some p=>rw[e]at h;exact⟨p,rfl,(ag h).symm⟩
  refine Ad (f.get t) fun w i y=>Br y.ex fun H' u ps ad L xs=>Z v ?_;have N:j<Y.length:=(av.mp i).1;refine⟨s.off _ _ (l b) b,_,rfl,fun K Ab W=>UO g c ok k i ⟨⟨H',ad⟩,L,xs⟩ ?_ s fun I C D P=>Ab _ _ ⟨_,_,_,_,rfl,?_⟩⟩
  ·exact ab (IX _ _ fun w i=>ok.u3 w (tc i)) (Z mf (ab (dE 4 (ab (qr ..) ok.n5)) (dd rfl)))
  ·exact Z (AK i) (Z (MX ..) (Z mf (Z (Nat.min_eq_left (dk N)) (Z (df ..) P))))
 ·rintro B m ⟨E,F,C,D,rfl,s⟩;rw[ac,f.length,dp]at s;exact Ad s.ex fun ps R S=>⟨s.off _ _ (l b) b,jQ (A9 (Aa rfl rfl) (q B fl ps (fun a o e=>s.off a o (l e) e) R S))⟩
end
theorem Gm:∀c∈["p","v","e","s"],∀a∈["p","v","e","s"],∀l,l<6->∀l',l'<6->bx c l=bx a l'->c=a/\l=l':=by decide +kernel
theorem BG:∀c∈["p","v","e","s"],∀l,l<6->bx c l≠"q"/\bx c l≠"arguments"/\bx c l≠"zz":=by decide +kernel
theorem Rd:∀u,u<6->∀s,s<6->decide (Cd u s="arguments")=decide (s=4):=by decide +kernel
noncomputable def aX(Y:List Row)(l:Nat):Row:=(Y[l]?).getD ⟨false,false,false,[]⟩
theorem El{Y:List Row}{l:Nat}(h:l<Y.length):Y[l]?=some (aX Y l):=by unfold aX;refine Z (ck h) ?_;rfl
def nP(J:Nat->iy)(Y:List Row)(l:Nat):List T:=dO J (Y.drop (l+1)) (l+1)
def tT(J:Nat->iy)(Y:List Row)(l:Nat):T:=.tr (J l).t [] (bx "e" l) (Kt (aX Y l) (J l).e (nP J Y l))
def fB(J:Nat->iy)(Y:List Row)(l:Nat):List T:=HS l (aX Y l) (J l).v (J l).b (J l).e (J l).us (nP J Y l)++[tT J Y l]
def fT(J:Nat->iy)(Y:List Row)(l:Nat):T:=.func (J l).f (some (bx "s" l)) (B5 l (aX Y l)) (fB J Y l) (aX Y l).st false
def cF(J:Nat->iy)(Y:List Row)(P:T)(l:Nat):List T:=mS [fT J Y 0,P] (fun l a=>fT J Y (l+1)::(if(aX Y l).wi then tT J Y l::a else a)) l
noncomputable def aW(w:Row):Bool:=w.us.any fun x=>decide (x.2=4)
section
variable{J:Nat->iy}{Y:List Row}{P:T}{l:Nat}{w:Row}{x:String}
theorem Jt(h:l<Y.length):dO J (Y.drop l) l=[fT J Y l]:=by
 refine Z (Gs (El h)) ?_;rfl
structure ir(x:String)(ts:List T)(a:Bool)(v:List String):Prop where
 nm:(Cs ts).any (T.isName x)=a
 vs:(Cs ts).flatMap T.vars=v
 fd:A5 ts=[]
theorem ir.app{ts us:List T}{a b:Bool}{v u:List String}(h:ir x ts a v)(c:ir x us b u):ir x (ts++us) (a||b) (v++u):=
 ⟨by exact Z (IK ..) (Z List.any_append (Z h.nm (Z c.nm rfl))),by exact Z (IK ..) (Z tq (Z h.vs (Z c.vs rfl))),by unfold A5;refine Z (lx ..) ?_;exact(congr (congrArg HAppend.hAppend h.fd) c.fd)⟩
theorem ir.nil:ir x [] false []:=⟨rfl,rfl,rfl⟩
theorem Yi(e:Addr):∀(Y:List Row) (l:Nat),ir x ((dO J Y l).map (T.expr e)) false []:=by
 intro a;induction a with
 |nil=>
  intro _;exact .nil
 |cons w Y b=>
  intro l;exact⟨rfl,rfl,rfl⟩
theorem Xp(us:List (Nat×Nat)):∀(b:List (Addr×Addr)),b.length=us.length->ir x (DH us b) (us.any fun y=>decide (Cd y.1 y.2=x)) []:=fq (fun b=>gc b (fun c=>.nil) fun c e f=>.nil) (fun y us d b=>gc b (fun h=>absurd h.symm (kc _)) fun a b h=>ir.app (ts:=[.expr a.1 (.name a.2 (Cd y.1 y.2))]) (a:=decide (Cd y.1 y.2=x)) (v:=[]) ⟨by show(false||(decide _||false))=_;exact Z (oP ..) (Z (kf ..) rfl),rfl,rfl⟩ (d b (h9 h))) us
theorem wU{a:Addr}{y:String}{h:List T}(o:ir x h false []):ir x [.tr a [] y h] false []:=
 ⟨by show(false||((([]++Cs h)++[]).any _))=false;rw[ki,aS];exact o.nm,by show[]++((([]++Cs h)++[]).flatMap _)=[];refine Z (ki ..) (Z (aS ..) (Z (ki ..) ?_));exact o.vs,rfl⟩
theorem Os(h:(J l).us.length=(aX Y l).us.length):ir x (fB J Y l) ((aX Y l).us.any fun y=>decide (Cd y.1 y.2=x)) [bx "v" l]:=by
 have d:ir x [.var (J l).v (bx "v" l) (some (J l).b)] false [bx "v" l]:=⟨rfl,rfl,rfl⟩
 have f:=Xp (x:=x) (aX Y l).us (J l).us h;have c:=Yi (J:=J) (x:=x) (J l).e (Y.drop (l+1)) (l+1);have g:ir x (if(aX Y l).wi then[]else(nP J Y l).map (T.expr (J l).e)) false []:=by
  cases(aX Y l).wi with
  |true=>exact .nil|false=>exact c
 have i:ir x (Kt (aX Y l) (J l).e (nP J Y l)) false []:=by
  unfold Kt;cases(aX Y l).wi with
  |true=>exact c|false=>exact .nil
 have:=(d.app (f.app g)).app (wU (a:=(J l).t) (y:=bx "e" l) i);rw[kf,kf,oP,aS,aS]at this;exact this
theorem ji :x∈B5 l w↔x=bx "p" l\/x="q":=by
 unfold B5;cases w.tw with
 |true=>
  exact Z (if_pos rfl) (Z (propext bg) (Z (propext bg) (Z (propext al) ⟨fun z=>z.elim .inl fun z=>z.elim .inr .inl,fun z=>z.elim .inl fun z=>.inr (.inl z)⟩)))
 |false=>exact Z (if_neg ax) (Z (propext bg) (Z (propext al) Iff.rfl))
theorem U9{a:Type}{p q:a->Bool}:∀{M:List a},(∀y∈M,p y=q y)->M.any p=M.any q:=by
 intro b;induction b with
 |nil=>
  intro _;exact rfl
 |cons y e c=>
  intro h;exact Z kK (Z kK (Z (h y (.head _)) (Z (c fun z d=>h z (.tail _ d)) rfl)))
structure eZ(J:Nat->iy)(Y:List Row):Prop where
 ok:dY Y
 len:∀l,l<Y.length->(J l).us.length=(aX Y l).us.length
theorem eZ.lt(t:eZ J Y)(h:l<Y.length):l<6:=bv h (ab t.ok.n5 (dd rfl))
theorem eZ.row(t:eZ J Y)(h:l<Y.length):SB l (aX Y l):=t.ok.r l _ (El h)
theorem eZ.uses(t:eZ J Y)(h:l<Y.length):((aX Y l).us.any fun y=>decide (Cd y.1 y.2="arguments"))=aW (aX Y l):=U9 fun y a=>Rd _ (aI ((t.row h).u y a).1 (t.lt h)) _ (fR ((t.row h).u y a).2)
theorem eZ.needs(t:eZ J Y)(h:l<Y.length):Bd (B5 l (aX Y l)) (fB J Y l)=aW (aX Y l):=by
 have o:=Os (x:="arguments") (t.len l h);have a:=(BG "v" (dd rfl) l (t.lt h)).2.1;have b:=(BG "p" (dd rfl) l (t.lt h)).2.1;unfold Bd;rewrite[if_neg];refine Z (show K9 (fB J Y l) "arguments"=_ from o.nm) (Z (t.uses h) ?_);rewrite[decide_eq_false];exact Z (kf ..) rfl
 ·unfold aF;exact Z o.vs (fun z=>a (al.mp (jZ.mp z)).symm)
 ·rintro(z|z)
  ·rcases ji.mp z with z|z
   ·exact b z.symm
   ·exact absurd z (dd rfl)
  ·unfold BA at z;rw[o.fd]at z;exact absurd z am
theorem eZ.names(t:eZ J Y)(h:l<Y.length):x∈(fT J Y l).names↔x=bx "p" l\/x="q"\/(aW (aX Y l)=true/\x="arguments")\/x=bx "v" l:=by
 have o:=Os (x:="arguments") (t.len l h);refine ig.trans (Z (propext ji) (Z (t.needs h) (Z (propext or_assoc) (or_congr_right (or_congr_right ?_)))));unfold BA aF;exact Z o.fd (Z o.vs (Z (propext jZ) (Z (propext al) ⟨fun z=>z.elim (fun z=>absurd z am) id,.inr⟩)))
theorem eZ.args(t:eZ J Y)(h:l<Y.length):(fT J Y l).args=aW (aX Y l):=t.needs h
theorem eZ.self(t:eZ J Y)(h:l<Y.length):(fT J Y l).bM=some (bx "s" l):=by
 refine Nx fun z=>?_;have n:=fun c a e=>(Gm "s" (dd rfl) c a l (t.lt h) l (t.lt h) e).1;rcases(t.names h).mp z with z|z|z|z
 ·exact absurd (n "p" (dd rfl) z) (dd rfl)
 ·exact(BG "s" (dd rfl) l (t.lt h)).1 z
 ·exact(BG "s" (dd rfl) l (t.lt h)).2.1 z.2
 ·exact absurd (n "v" (dd rfl) z) (dd rfl)
variable{c:List T}
theorem N7(t:eZ J Y)(h:l<Y.length)(hx:x∈(fT J Y l).names):Ak (fT J Y l::c) x=(some ⟨.own,(J l).f,x⟩,[]):=Bx (B8 hx)
theorem Yg(t:eZ J Y)(h:l<Y.length)(hx:x∉(fT J Y l).names)(e:x=bx "s" l):Ak (fT J Y l::c) x=(some ⟨.self,(J l).f,x⟩,[]):=Bx (Cz hx (e▸t.self h))
theorem SJ(t:eZ J Y)(h:l<Y.length)(hx:x∉(fT J Y l).names)(e:x≠bx "s" l):Ak (fT J Y l::c) x=((Ak c x).1,(J l).f::(Ak c x).2):=B4 (Bp hx fun z=>e (ag ((t.self h).symm.trans z)).symm)
theorem Of :Ak (tT J Y l::c) (bx "e" l)=(some ⟨.cat,(J l).t,bx "e" l⟩,[]):=Bx (B8 (al.mpr rfl))
theorem KT(n:x≠bx "e" l):Ak (tT J Y l::c) x=Ak c x:=B4 (Bp (fun z=>n (al.mp z)) nofun)
noncomputable def CS(J:Nat->iy)(a l:Nat):List Addr:=mS [] (fun l b=>if l+1<=a then[]else(J (l+1)).f::b) l
def kb(J:Nat->iy)(m:Nat×Nat):BK:=if m.2=0 then⟨.own,(J m.1).f,bx "p" m.1⟩else if m.2=1 then⟨.own,(J m.1).f,bx "v" m.1⟩else if m.2=2 then⟨.cat,(J m.1).t,bx "e" m.1⟩else if m.2=3 then⟨.self,(J m.1).f,bx "s" m.1⟩else if m.2=4 then⟨.own,(J m.1).f,"arguments"⟩else⟨.own,(J m.1).f,"q"⟩
variable{a u:Nat}
theorem CF(h:l<=a):CS J a l=[]:=by
 cases l with
 |zero=>rfl|succ l=>exact if_pos h
theorem GD(h:a<=l):CS J a (l+1)=(J (l+1)).f::CS J a l:=if_neg (qq (fR h))
theorem QF:∀{l:Nat},a+1<=l->CS J (a+1) l++[(J (a+1)).f]=CS J a l:=by
 intro c;induction c with
 |zero=>
  intro h;exact absurd h (tm a)
 |succ l d=>
  intro h;by_cases e:a=l
  ·refine Z (ap e) (Z (CF (ai _)) (Z (GD (ai a)) (Z (CF (ai a)) ?_)));rfl
  ·have b:=gE (i4 h) e;refine Z (GD b) (Z (GD (hH b)) (Z (ap (d b)) ?_));rfl
theorem S4:∃c,cF J Y P l=fT J Y l::c:=by
 cases l with
 |zero=>exact⟨_,rfl⟩|succ l=>exact⟨_,rfl⟩
theorem Acc(h:(aX Y l).wi=true):cF J Y P (l+1)=fT J Y (l+1)::tT J Y l::cF J Y P l:=congrArg (List.cons _) (if_pos h)
theorem vg(h:(aX Y l).wi=false):cF J Y P (l+1)=fT J Y (l+1)::cF J Y P l:=congrArg (List.cons _) (if_neg (by refine Z h ?_;exact ax))
theorem XZ(t:eZ J Y)(h:l+1<Y.length)(b:x∉(fT J Y (l+1)).names)(e:x≠bx "s" (l+1))(n:(aX Y l).wi=true->x≠bx "e" l):Ak (cF J Y P (l+1)) x=((Ak (cF J Y P l) x).1,(J (l+1)).f::(Ak (cF J Y P l) x).2):=by
 cases a:(aX Y l).wi with
 |true=>exact Z (Acc a) (Z (SJ t h b e) (Z (KT (n a)) rfl))|false=>exact Z (vg a) (Z (SJ t h b e) rfl)
theorem Ws(t:eZ J Y){r:Option BK}{tl:List Addr}(d:Ak (cF J Y P a) x=(r,tl)):∀(l:Nat),l<Y.length->a<=l->(∀j,a<j->j<=l->x∉(fT J Y j).names/\x≠bx "s" j)->(∀j,a<=j->j<l->(aX Y j).wi=true->x≠bx "e" j)->Ak (cF J Y P l) x=(r,CS J a l++tl):=by
 intro m;induction m with
 |zero=>
  intro _ f _ _;rw[tn.mp f]at d ⊢;exact d
 |succ l n=>
  intro h f i k;by_cases e:a=l+1
  ·rw[e]at d ⊢;exact Z (CF (ai _)) d
  ·have b:=de (gE f e);have q:=i (l+1) (fR b) (ai _);refine Z (XZ t h q.1 q.2 (k l b (eK _))) (Z (n (eP h) b (fun j g c=>i j g (dS c)) (fun j g c=>k j g (kt c))) (Z (GD b) ?_));rfl
variable{b:List T}
theorem Xz{a:Addr}:(Ak [T.prog a b] x).1=none:=congrArg Prod.fst (B4 (Bp (v:=.prog a b) (x:=x) am nofun))
theorem SI{a:Addr}(t:eZ J Y)(c:l<Y.length)(d:∀j,j<=l->x∉(fT J Y j).names/\x≠bx "s" j)(e:∀j,j<l->(aX Y j).wi=true->x≠bx "e" j):(Ak (cF J Y (.prog a b) l) x).1=none:=by
 have g:Ak (cF J Y (.prog a b) 0) x=(none,(J 0).f::(Ak [T.prog a b] x).2):=by
  have:=d 0 (bq _);exact Z (ap (Xz)) (SJ t (Nat.zero_lt_of_lt c) this.1 this.2)
 exact Z (Ws t g l c (bq _) (fun j z=>d j) (fun j z=>e j)) rfl
theorem L6(t:eZ J Y){c:String}(a:c∈["p","v","e","s"]){j:Nat}(f:j<Y.length)(b:u<6)(n:u≠j):bx c u∉(fT J Y j).names/\bx c u≠bx "s" j/\bx c u≠bx "e" j:=by
 have i:=fun g d e=>n (Gm c a g d u b j (t.lt f) e).2;refine⟨fun z=>?_,i "s" (dd rfl),i "e" (dd rfl)⟩;rcases(t.names f).mp z with z|z|z|z
 ·exact i "p" (dd rfl) z
 ·exact(BG c a u b).1 z
 ·exact(BG c a u b).2.1 z.2
 ·exact i "v" (dd rfl) z
theorem W4(t:eZ J Y){c:String}(hc:c∈["p","v","s"])(hl:l<Y.length)(hu:u<=l){b:BK}(h0:∀c',Ak (fT J Y u::c') (bx c u)=(some b,[])):Ak (cF J Y P l) (bx c u)=(some b,CS J u l):=by
 have hul:=aI hu hl;have hu6:=t.lt hul;have hc4:=(dd rfl:∀c∈["p","v","s"],c∈["p","v","e","s"]) c hc;have hce:=(dd rfl:∀c∈["p","v","s"],c≠"e") c hc;refine AA (S4 (J:=J) (Y:=Y) (P:=P) (l:=u)) fun c' e=>?_;have:=Ws (P:=P) t (a:=u) (x:=bx c u) (r:=some b) (tl:=[]) (Z e (h0 c')) l hl hu (fun j h1 h2=>?_) (fun j h1 h2 y=>?_)
 ·rw[aS]at this;exact this
 ·have q:=L6 t hc4 (aI h2 hl) hu6 (dL h1);exact⟨q.1,q.2.1⟩
 ·exact fun z=>hce (Gm c hc4 "e" (dd rfl) u hu6 j (t.lt (ee h2 hl)) z).1
theorem tC(t:eZ J Y)(a:l<Y.length)(b:u<=l):Ak (cF J Y P l) (bx "p" u)=(some (kb J (u,0)),CS J u l):=W4 t (dd rfl) a b fun c=>N7 t (aI b a) ((t.names (aI b a)).mpr (.inl rfl))
theorem Vh(t:eZ J Y)(a:l<Y.length)(b:u<=l):Ak (cF J Y P l) (bx "v" u)=(some (kb J (u,1)),CS J u l):=W4 t (dd rfl) a b fun c=>N7 t (aI b a) ((t.names (aI b a)).mpr (.inr (.inr (.inr rfl))))
theorem AbL(t:eZ J Y)(h:l<Y.length):bx "s" l∉(fT J Y l).names:=fun z=>by
 have n:=fun c a e=>(Gm "s" (dd rfl) c a l (t.lt h) l (t.lt h) e).1;rcases(t.names h).mp z with z|z|z|z
 ·exact absurd (n "p" (dd rfl) z) (dd rfl)
 ·exact(BG "s" (dd rfl) l (t.lt h)).1 z
 ·exact(BG "s" (dd rfl) l (t.lt h)).2.1 z.2
 ·exact absurd (n "v" (dd rfl) z) (dd rfl)
theorem vN(t:eZ J Y)(h:l<Y.length):bx "e" l∉(fT J Y l).names/\bx "e" l≠bx "s" l:=by
 have n:=fun c a e=>(Gm "e" (dd rfl) c a l (t.lt h) l (t.lt h) e).1;refine⟨fun z=>?_,fun z=>absurd (n "s" (dd rfl) z) (dd rfl)⟩;rcases(t.names h).mp z with z|z|z|z
 ·exact absurd (n "p" (dd rfl) z) (dd rfl)
 ·exact(BG "e" (dd rfl) l (t.lt h)).1 z
 ·exact(BG "e" (dd rfl) l (t.lt h)).2.1 z.2
 ·exact absurd (n "v" (dd rfl) z) (dd rfl)
theorem sG(t:eZ J Y)(a:l<Y.length)(b:u<=l):Ak (cF J Y P l) (bx "s" u)=(some (kb J (u,3)),CS J u l):=W4 t (dd rfl) a b fun c=>Yg t (aI b a) (AbL t (aI b a)) rfl
theorem rJ(t:eZ J Y)(a:l<Y.length)(b:aW (aX Y l)=true):Ak (cF J Y P l) "arguments"=(some (kb J (l,4)),CS J l l):=AA (S4) fun c e=>Z e (Z (CF (ai _)) (N7 t a ((t.names a).mpr (.inr (.inr (.inl ⟨b,rfl⟩))))))
theorem uP(t:eZ J Y)(d:l<Y.length)(e:u<l)(i:(aX Y u).wi=true):Ak (cF J Y P l) (bx "e" u)=(some (kb J (u,2)),CS J u l):=by
 have g:=ee e d;have a:=t.lt g;have b:=aI e d;have q:=L6 t (c:="e") (dd rfl) b a (dL (eK u));have k:Ak (cF J Y P (u+1)) (bx "e" u)=(some (kb J (u,2)),[(J (u+1)).f]):=by
  refine Z (Acc i) (Z (SJ t b q.1 q.2.1) (Z Of ?_));rfl
 have:=Ws t k l d e (fun j b h=>?_) (fun j b h z=>?_)
 ·rw[QF e]at this;exact this
 ·have q:=L6 t (c:="e") (dd rfl) (aI h d) a (dL (eP b));exact⟨q.1,q.2.1⟩
 ·exact(L6 t (dd rfl) (ee h d) a (dL b)).2.2
theorem vm{i:Addr}(t:eZ J Y)(a:l<Y.length)(h:u<=l)(k:u<l->(aX Y u).wi=false):(Ak (cF J Y (.prog i b) l) (bx "e" u)).1=none:=by
 have d:=t.lt (aI h a);refine SI t a (fun j f=>?_) (fun j f g z=>?_)
 ·by_cases e:u=j
  ·exact Z (ap e) (vN t (aI h a))
  ·have q:=L6 t (c:="e") (dd rfl) (aI f a) d e;exact⟨q.1,q.2.1⟩
 ·have e:=(Gm "e" (dd rfl) "e" (dd rfl) u d j (t.lt (ee f a)) z).2;rw[<-e]at f g;exact bU ((k f).symm.trans g)
theorem ZQ{e:Addr}(t:eZ J Y)(a:l<Y.length):(Ak (cF J Y (.prog e b) l) "zz").1=none:=by
 refine SI t a (fun j c=>⟨fun z=>?_,fun z=>(BG "s" (dd rfl) j (t.lt (aI c a))).2.2 z.symm⟩) (fun j c y z=>(BG "e" (dd rfl) j (t.lt (ee c a))).2.2 z.symm);have d:=t.lt (aI c a);rcases(t.names (aI c a)).mp z with z|z|z|z
 ·exact(BG "p" (dd rfl) j d).2.2 z.symm
 ·exact absurd z (dd rfl)
 ·exact absurd z.2 (dd rfl)
 ·exact(BG "v" (dd rfl) j d).2.2 z.symm
def iZ(J:Nat->iy)(Y:List Row)(P:T)(l:Nat):List T:=l6 l [P] fun l=>if(aX Y l).wi then tT J Y l::cF J Y P l else cF J Y P l
theorem cu:cF J Y P l=fT J Y l::iZ J Y P l:=by
 cases l with
 |zero=>rfl|succ l=>rfl
theorem OT{z:Use}:∀(a:List Row) (l:Nat),z∈Aw Y a l->∃j w,a[j]?=some w/\(z=⟨l+j,bx "v" (l+j),some (l+j,1)⟩\/∃x∈w.us,z=⟨l+j,Cd x.1 x.2,D7 Y (l+j) x⟩):=by
 intro b;induction b with
 |nil=>
  intro _ h;exact absurd h am
 |cons w a c=>
  intro l h;rcases bX.mp h with h|h
  ·refine⟨0,w,rfl,?_⟩;rcases bg.mp h with h|h
   ·exact .inl h
   ·exact Ad (bn.mp h) fun x d e=>.inr ⟨x,d,e.symm⟩
  ·refine AQ (c (l+1) h) fun j f g h=>?_;rw[dn,ds 1 j]at h;exact⟨j+1,f,g,h⟩
end
section
variable{J:Nat->iy}{Y:List Row}{P:T}{l a u:Nat}{w:Row}{x:String}
structure Ze(J:Nat->iy)(Y:List Row)(P:T)(z:Use):Prop where
 l:z.l<Y.length
 none:z.o=none->(Ak (cF J Y P z.l) z.y).1=none
 four:∀m,z.o=some m->(m.2=4->m.1=z.l/\aW (aX Y z.l)=true)/\(kb J m).name=z.y
 some:∀m,z.o=some m->m.1<=z.l/\m.2<=4/\(m.2=2->m.1<z.l/\(aX Y m.1).wi=true)/\Ak (cF J Y P z.l) z.y=(some (kb J m),CS J m.1 z.l)
theorem Xr :TR Y u=(aX Y u).wi:=by
 unfold TR aX;cases Y[u]? with
 |none=>rfl|some w=>rfl
theorem Zv{x:Nat×Nat}(h:x∈w.us)(e:x.2=4):aW w=true:=fe.mpr ⟨x,h,decide_eq_true e⟩
theorem NZ{x:Nat×Nat}(l:Nat)(e:x.2<=5)(f:x.1<=l):
  (D7 Y l x=none/\(x.2=5\/(x.2=2/\(x.1<l->(aX Y x.1).wi=false))))\/(D7 Y l x=some (l,4)/\x.2=4)\/(D7 Y l x=some x/\x.2<=3/\(x.2=2->x.1<l/\(aX Y x.1).wi=true)):=by
 unfold D7;rw[Xr];by_cases c:x.2=5
 ·exact .inl ⟨by rw[if_pos];rw[decide_eq_true c];rfl,.inl c⟩
 rw[decide_eq_false c,oP,kf,se,kf];by_cases b:x.2=4
 ·exact .inr (.inl ⟨by rw[b];rfl,b⟩)
 by_cases a:x.2=2
 ·rw[decide_eq_true a,Bool.true_and];by_cases d:x.1=l
  ·exact .inl ⟨by rw[decide_eq_true d];rfl,.inr ⟨a,fun z=>absurd d (dL z)⟩⟩
  ·rw[decide_eq_false d,oP];cases g:(aX Y x.1).wi with
   |false=>exact .inl ⟨rfl,.inr ⟨a,fun y=>rfl⟩⟩|true=>exact .inr (.inr ⟨by rw[if_neg b];rfl,by rw[a];decide,fun y=>⟨gE f d,rfl⟩⟩)
 ·rw[decide_eq_false a,Bool.false_and,if_neg ax,if_neg b];exact .inr (.inr ⟨rfl,by exact vG e c b,fun z=>absurd z a⟩)
variable{b:List T}
theorem zP{k:Addr}(t:eZ J Y){z:Use}(l:z∈Aw Y Y 0):Ze J Y (.prog k b) z:=by
 refine AQ (OT Y 0 l) fun j w f h=>?_;rw[df]at h;have c:=(av.mp f).1;have i:=ag ((El c).symm.trans f);rcases h with h|⟨x,g,h⟩
 ·exact Z h ⟨c,nofun,fun m a=>by refine Z (ap (ag a)) ?_;exact⟨fun e=>absurd e (dd rfl),rfl⟩,fun m a=>by refine Z (ap (ag a)) ?_;exact⟨ai _,(dd rfl),fun e=>absurd e (dd rfl),Vh t c (ai _)⟩⟩
 ·have r:=(t.ok.r j w f).u x g;refine Z h ?_;rcases NZ j r.2 r.1 with⟨e,q⟩|⟨e,q⟩|⟨e,q,d⟩
  ·refine⟨c,fun y=>?_,fun m a=>gU (e.symm.trans a),fun m a=>gU (e.symm.trans a)⟩;rcases q with q|⟨q,d⟩
   ·exact Z q (ZQ t c)
   ·exact Z q (vm t c r.1 d)
  ·refine⟨c,fun z=>jd (e.symm.trans z),fun m a=>?_,fun m a=>?_⟩
   ·refine Z (ap (ag (e.symm.trans a))) ⟨fun y=>⟨rfl,by refine Z i ?_;exact Zv g q⟩,?_⟩;refine Z q ?_;rfl
   refine Z (ap (ag (e.symm.trans a))) ⟨ai _,ai 4,fun e=>absurd e (dd rfl),?_⟩;exact Z q (rJ t c (Z i (Zv g q)))
  ·obtain⟨u,s⟩:=x;have:s=0\/s=1\/s=2\/s=3:=by have q:=q;exact qY q
   refine⟨c,fun z=>jd (e.symm.trans z),fun m a=>?_,fun m a=>?_⟩
   ·refine Z (ap (ag (e.symm.trans a))) ?_;have n:=q;refine⟨fun z=>absurd n (by have z:=z;refine Z z ?_;decide),?_⟩;rcases this with e|e|e|e<;>rw[e]<;>rfl
   refine Z (ap (ag (e.symm.trans a))) ⟨r.1,dS q,d,?_⟩;rcases this with e|e|e|e
   ·exact Z e (tC t c r.1)
   ·exact Z e (Vh t c r.1)
   ·refine Z e ?_;have d:=d e;exact uP t c d.1 d.2
   ·exact Z e (sG t c r.1)
theorem HP{c:List T}{e:Addr}:∀(ts:List T),aU c (ts.map (T.expr e))=aU c ts:=by
 intro a;induction a with
 |nil=>
  exact rfl
 |cons t ts b=>
  exact congrArg (He c t++·) (b)
theorem Ut{c:List T}(us:List (Nat×Nat)):∀(b:List (Addr×Addr)),b.length=us.length->aU c (DH us b)=us.map fun x=>(c,Cd x.1 x.2):=fq (fun b=>gc b (fun d=>rfl) fun d f g=>rfl) (fun y us e b=>gc b (fun h=>absurd h.symm (kc _)) fun a b h=>congrArg (List.cons (c,Cd y.1 y.2)) (e b (h9 h))) us
def Xh(J:Nat->iy)(Y:List Row)(P:T)(z:Use):List T×String:=(cF J Y P z.l,z.y)
theorem XM(t:eZ J Y):∀(n l:Nat),l+n=Y.length->aU (iZ J Y P l) (dO J (Y.drop l) l)=(Aw Y (Y.drop l) l).map (Xh J Y P):=by
 intro z0;induction z0 with
 |zero=>
  intro l h;refine Z (iO (ct ((lh l).symm.trans h).symm)) ?_;rfl
 |succ n ih=>
  intro l h;have hl:=YB h;have ih:=ih (l+1) (Xe h);have e1:aU (iZ J Y P l) [fT J Y l]=aU (cF J Y P l) (fB J Y l):=by refine Z cu ?_;exact aS _
  refine Z (Jt hl) (Z e1 (Z (Gs (El hl)) ?_));refine Z bP (Z (ap ih) ?_);unfold fB HS;refine Z (Nu ..) ?_;have eu:=Ut (c:=cF J Y P l) (aX Y l).us (J l).us (t.len l hl);have el:(B7 Y l (aX Y l)).map (Xh J Y P)=(cF J Y P l,bx "v" l)::(aX Y l).us.map fun x=>(cF J Y P l,Cd x.1 x.2):=by
   unfold B7;refine Z dr (Z f8 ?_);rfl
  have ev:∀ts,aU (cF J Y P l) (.var (J l).v (bx "v" l) (some (J l).b)::ts)=(cF J Y P l,bx "v" l)::aU (cF J Y P l) ts:=fun ts=>rfl;have et:aU (cF J Y P l) [tT J Y l]=aU (tT J Y l::cF J Y P l) (Kt (aX Y l) (J l).e (nP J Y l)):=aS _;refine Z (ev ..) (Z (Nu ..) (Z eu (Z et (Z el ?_))));unfold Kt iZ nP;cases hw:(aX Y l).wi with
  |true=>
   refine Z (if_pos rfl) (Z (if_pos rfl) (Z (HP ..) ?_));show _::_++_=_::_++aU (if(aX Y l).wi=true then _ else _) _;refine Z hw (Z (if_pos rfl) ?_);refine Z (aS ..) ?_;rfl
  |false=>
   refine Z (if_neg ax) (Z (if_neg ax) (Z (HP ..) ?_));show _::_++_=_::_++aU (if(aX Y l).wi=true then _ else _) _;refine Z hw (Z (if_neg ax) ?_);refine Z (aS ..) ?_;rfl
variable{ea:Addr}
theorem Sy(t:eZ J Y){a:Addr}(c:b=(dO J Y 0).map (T.expr ea)):aU [T.prog a b] b=(Aw Y Y 0).map (Xh J Y (.prog a b)):=by
 have:=XM (P:=.prog a b) t Y.length 0 (df _);rw[<-HP (e:=ea)]at this;rw[<-show aU (iZ J Y (.prog a b) 0) ((dO J Y 0).map (T.expr ea))=aU [T.prog a b] b by rw[c];rfl];exact this
variable{c:List T}
theorem LJ{e:Addr}:∀(ts:List T),gr c (ts.map (T.expr e))=gr c ts:=by
 intro a;induction a with
 |nil=>
  exact rfl
 |cons t ts b=>
  exact congrArg (mR c t++·) (b)
theorem YE(us:List (Nat×Nat)):∀(b:List (Addr×Addr)),gr c (DH us b)=[]:=fq (fun b=>gc b rfl fun e f=>rfl) (fun y us d b=>gc b rfl fun a b=>d b) us
theorem Zf(hl:l<Y.length):gr (iZ J Y P l) (dO J (Y.drop l) l)=cF J Y P l::(if(aX Y l).wi then(tT J Y l::cF J Y P l)::gr (iZ J Y P (l+1)) (dO J (Y.drop (l+1)) (l+1))else gr (iZ J Y P (l+1)) (dO J (Y.drop (l+1)) (l+1))++[tT J Y l::cF J Y P l]):=by
 have e1:gr (iZ J Y P l) [fT J Y l]=cF J Y P l::gr (cF J Y P l) (fB J Y l):=by refine Z cu ?_;exact aS _
 refine Z (Jt hl) (Z e1 ?_);unfold fB HS;refine Z (S6 ..) ?_;have ev:∀ts,gr (cF J Y P l) (.var (J l).v (bx "v" l) (some (J l).b)::ts)=gr (cF J Y P l) ts:=fun ts=>rfl;have et:gr (cF J Y P l) [tT J Y l]=(tT J Y l::cF J Y P l)::gr (tT J Y l::cF J Y P l) (Kt (aX Y l) (J l).e (nP J Y l)):=by
  show((_::([]++_))++[])=_;refine Z (aS ..) ?_;rfl
 refine Z (ev ..) (Z (S6 ..) (Z (YE ..) (Z et (Z (ki ..) ?_))));unfold Kt iZ nP;cases hw:(aX Y l).wi with
 |true=>
  refine Z (if_pos rfl) (Z (if_pos rfl) (Z (if_pos rfl) (Z (LJ ..) ?_)));show _=_::_::gr (if(aX Y l).wi=true then _ else _) _;refine Z hw (Z (if_pos rfl) ?_);rfl
 |false=>
  refine Z (if_neg ax) (Z (if_neg ax) (Z (if_neg ax) (Z (LJ ..) ?_)));show _=_::(gr (if(aX Y l).wi=true then _ else _) _++_);refine Z hw (Z (if_neg ax) ?_);rfl
theorem vz:∀(n l:Nat),l+n=Y.length->(c∈gr (iZ J Y P l) (dO J (Y.drop l) l)↔∃j,l<=j/\j<Y.length/\(c=cF J Y P j\/c=tT J Y j::cF J Y P j)):=by
 intro m;induction m with
 |zero=>
  intro l h;exact Z (iO (ct ((lh l).symm.trans h).symm)) ⟨fun z=>absurd z am,fun f=>Az f fun j a b y=>absurd b (Nat.not_lt_of_le (ab (ct h.symm) a))⟩
 |succ n g=>
  intro l h;have g:=g (l+1) (Xe h);have i:=YB h;have k:c∈gr (iZ J Y P l) (dO J (Y.drop l) l)↔c=cF J Y P l\/c=tT J Y l::cF J Y P l\/c∈gr (iZ J Y P (l+1)) (dO J (Y.drop (l+1)) (l+1)):=by
   refine Z (Zf i) ?_;cases(aX Y l).wi with
   |true=>exact Z (if_pos rfl) (Z (propext bg) (Z (propext bg) Iff.rfl))|false=>refine Z (if_neg ax) (Z (propext bg) (Z (propext bX) (Z (propext al) ?_)));exact or_congr_right or_comm
  refine Z (propext k) (Z (propext g) ?_);constructor
  ·rintro(h|h|⟨j,a,b,d⟩)
   ·exact⟨l,ai _,i,.inl h⟩
   ·exact⟨l,ai _,i,.inr h⟩
   ·exact⟨j,hH a,b,d⟩
  ·rintro⟨j,a,b,d⟩;by_cases e:l=j
   ·exact Z e (d.elim .inl fun z=>.inr (.inl z))
   ·exact .inr (.inr ⟨j,gE a e,b,d⟩)
theorem Zi:oX (cF J Y P l)=(J l).f:=by refine Z cu ?_;rfl
theorem Ada:∀(n l:Nat),l+n=Y.length->((gr (iZ J Y P l) (dO J (Y.drop l) l)).map oX).Perm (il J (Y.drop l) l):=by
 intro c;induction c with
 |zero=>
  intro l h;rw[iO (ct ((lh l).symm.trans h).symm)];exact .refl _
 |succ n a=>
  intro l h;have a:=a (l+1) (Xe h);have b:=YB h;rw[Zf b,show il J (Y.drop l) l=(J l).f::(J l).t::il J (Y.drop (l+1)) (l+1)by rw[Gs (El b)];rfl,dr,Zi];refine .cons _ ?_;cases(aX Y l).wi with
  |true=>exact .cons _ a|false=>
   rw[if_neg ax,bP];exact(sF).trans (.cons _ a)
theorem OJ:(cF J Y P l).length<=2*l+2:=by
 induction l with
 |zero=>exact ai _|succ l a=>
  show(_::(if _ then _ else _)).length<=_;cases(aX Y l).wi with
  |true=>exact cv (cv a)|false=>exact cv (dS a)
theorem R5(t:eZ J Y)(h:l<Y.length):(fT J Y l).names=[bx "p" l,"q"]++((if aW (aX Y l)then["arguments"]else[])++[bx "v" l]):=by
 have o:=Os (x:="arguments") (t.len l h);have c:=BG "p" (dd rfl) l (t.lt h);have b:=BG "v" (dd rfl) l (t.lt h);have a:bx "v" l≠bx "p" l:=fun z=>absurd (Gm "v" (dd rfl) "p" (dd rfl) l (t.lt h) l (t.lt h) z).1 (dd rfl);show A6 _ _=_;unfold A6;rw[t.needs h,show BA (fB J Y l)=[]by unfold BA;rw[o.fd];rfl,show aF (fB J Y l)=[bx "v" l]by unfold aF;rw[o.vs];rfl];have e:(B5 l (aX Y l)).foldl AE []=[bx "p" l,"q"]:=by
  have d:AE [bx "p" l] "q"=[bx "p" l,"q"]:=BW fun z=>c.1 (al.mp z).symm;unfold B5;cases(aX Y l).tw with
  |true=>
   show AE (AE [bx "p" l] "q") (bx "p" l)=_;rw[d];exact DO (.head _)
  |false=>exact d
 rw[e];show([bx "v" l]).foldl AE ((if aW (aX Y l)=true then["arguments"]else[]).foldl AE [bx "p" l,"q"])=_;cases aW (aX Y l)with
 |true=>
  rw[if_pos rfl];show AE (AE [bx "p" l,"q"] "arguments") (bx "v" l)=_;rw[BW (fun z=>?_),BW (fun z=>?_)]
  ·rfl
  ·rcases bg.mp z with z|z
   ·exact c.2.1 z.symm
   ·exact absurd (al.mp z) (dd rfl)
  ·rcases bX.mp z with z|z
   ·rcases bg.mp z with z|z
    ·exact a z
    ·exact b.1 (al.mp z)
   ·exact b.2.1 (al.mp z)
 |false=>
  rw[if_neg ax];show AE [bx "p" l,"q"] (bx "v" l)=_;rw[BW (fun z=>?_)]
  ·rfl
  ·rcases bg.mp z with z|z
   ·exact a z
   ·exact b.1 (al.mp z)
theorem Tt(us:List (Nat×Nat)):∀(b:List (Addr×Addr)),AS (DH us b)<=6*us.length:=fq (fun b=>gc b (bq _) fun d e=>bq _) (fun y us c b=>gc b (bq _) fun a b=>(ab (br (c b) 6) (ct (ds ..)))) us
theorem Mj{e:Addr}(ts:List T):AS (ts.map (T.expr e))<=3*ts.length+AS ts:=fq (bq _) (fun t ts a=>(ab (br a _) (ct ((Nat.add_add_add_comm ..).trans (congrArg (·+(t.size+AS ts)) (ds 3 _)))))) ts
theorem YK(t:eZ J Y):∀(n l:Nat),l+n=Y.length->AS (dO J (Y.drop l) l)<=60*n:=by
 intro g;induction g with
 |zero=>
  intro l h;exact Z (iO (ct ((lh l).symm.trans h).symm)) (bq _)
 |succ n a=>
  intro l h;have a:=a (l+1) (Xe h);have b:=YB h;have c:=Tt (aX Y l).us (J l).us;have r:=(t.row b).n3;have d:(dO J (Y.drop (l+1)) (l+1)).length<=1:=by
   cases Y.drop (l+1)with
   |nil=>exact bq _|cons w Y=>exact ai _
  have f:=Mj (e:=(J l).e) (dO J (Y.drop (l+1)) (l+1));have i:(B5 l (aX Y l)).length<=3:=by
   unfold B5;cases(aX Y l).tw with
   |true=>exact ai _|false=>exact ip _
  refine Z (Jt b) ?_;have j:AS (fB J Y l)<=41+AS (dO J (Y.drop (l+1)) (l+1)):=by
   unfold fB HS tT Kt nP;refine Z (GS ..) ?_;cases(aX Y l).wi with
   |true=>
    refine Z (if_pos rfl) (Z (if_pos rfl) (Z (aS ..) ?_));exact uQ c r d f
   |false=>
    refine Z (if_neg ax) (Z (if_neg ax) ?_);show(10+AS (DH _ _++_))+((10+0+0)+0)<=_;exact Z (GS ..) (Adz c r d f)
  exact wJ a i j
theorem Ee(t:eZ J Y):(Aw Y Y 0).length<=20:=ab (IX Y 0 t.ok.u3) (dE 4 t.ok.n5)
theorem R8:∀(Y:List Row) (l:Nat),(il J Y l).length=2*Y.length:=by
 intro a;induction a with
 |nil=>
  intro _;exact rfl
 |cons _ Y b=>
  intro l;show(il J Y (l+1)).length+1+1=2*(Y.length+1);exact Z (b (l+1)) (Nat.succ_add (2*Y.length) 1)
theorem ZB{a:Addr}(c:b=(dO J Y 0).map (T.expr ea)):gr [T.prog a b] b=gr (iZ J Y (.prog a b) 0) (dO J (Y.drop 0) 0):=
 (congrArg (gr [T.prog a b]) c).trans (LJ _)
def gH(J:Nat->iy)(Y:List Row)(a:Addr)(b:List T):List (List T):=[T.prog a b]::gr [T.prog a b] b
theorem Dl{d:Addr}(e:b=(dO J Y 0).map (T.expr ea)):c∈gH J Y d b↔c=[T.prog d b]\/∃j,j<Y.length/\(c=cF J Y (.prog d b) j\/c=tT J Y j::cF J Y (.prog d b) j):=by
 unfold gH;exact Z (propext bg) (Z (ZB e) (Z (propext (vz Y.length 0 (df _))) (or_congr_right ⟨fun a=>Ad a fun j z h=>⟨j,h⟩,fun a=>AA a fun j h=>⟨j,bq _,h⟩⟩)))
theorem ZS{a:Addr}(c:b=(dO J Y 0).map (T.expr ea))(d:(il J Y 0).Nodup)(e:a∉il J Y 0):((gH J Y a b).map oX).Nodup/\(gH J Y a b).length=2*Y.length+1:=by
 have q:=Ada (J:=J) (P:=.prog a b) Y.length 0 (df _);rw[<-ZB c]at q;unfold gH;refine⟨cr.mpr ⟨fun z=>e (q.mem_iff.mp z),q.nodup_iff.mpr d⟩,?_⟩;have:=q.length_eq;rw[ac,List.drop_zero,R8]at this;exact Z d4 (Z this rfl)
theorem U8{pa:Addr}(t:eZ J Y)(hb:b=(dO J Y 0).map (T.expr ea))(nd:(il J Y 0).Nodup)(hp:pa∉il J Y 0):DZ (gH J Y pa b) (aU [T.prog pa b] b):=by
 have q:=ZS hb nd hp;have h5:=t.ok.n5;refine⟨q.1,fun v vs m=>?_,by refine Z q.2 ?_;exact zU h5,?_⟩
 ·rcases(Dl hb).mp m with m|⟨j,hj,m|m⟩
  ·exact Z ((bS m).1) (Z ((bS m).2) ⟨(dd rfl:0<1000),(dd rfl:0<=20)⟩)
  ·have hl:=OJ (J:=J) (Y:=Y) (P:=.prog pa b) (l:=j);rw[<-m,d4]at hl;rw[cu]at m;refine Z ((bS m).1) (Z (R5 t hj) ⟨?_,by exact tV h5 hj hl⟩);cases aW (aX Y j)with
   |true=>exact(dd rfl:4<1000)|false=>exact(dd rfl:3<1000)
  ·have hl:=OJ (J:=J) (Y:=Y) (P:=.prog pa b) (l:=j);exact Z ((bS m).1) (Z ((bS m).2) ⟨(dd rfl),by exact uh h5 hj hl⟩)
 ·exact Z (Sy t hb) (Z (ac ..) (ab (Ee t) (dd rfl)))
theorem U4{a:Type}{l:List a}{p:a->Bool}{x:a}(b:l.Nodup)(m:x∈l)(c:p x=true)(h:∀y∈l,p y=true->y=x):l.filter p=[x]:=
 List.perm_singleton.mp ((jI (b.sublist (k6 ..)) (cr.mpr ⟨am,d0⟩)).mpr fun y=>by
  refine Z (propext List.mem_filter) (Z (propext al) ?_);exact⟨fun z=>h y z.1 z.2,fun z=>by refine Z z ?_;exact⟨m,c⟩⟩)
theorem ZR{a:Type}{l:List a}{p:a->Bool}(h:∀y∈l,p y=true->False):l.filter p=[]:=mM.mpr fun y b z=>h y b z
structure oH(J:Nat->iy)(n:Nat)(pa:Addr):Prop where
 f:∀i j,i<n->j<n->(J i).f=(J j).f->i=j
 t:∀i j,i<n->j<n->(J i).t=(J j).t->i=j
 ft:∀i j,i<n->j<n->(J i).f≠(J j).t
 pf:∀i,i<n->(J i).f≠pa
 pt:∀i,i<n->(J i).t≠pa
theorem vy(Y:List Row):∀(l j:Nat),j<Y.length->(il J Y l)[2*j]?=some (J (l+j)).f/\(il J Y l)[2*j+1]?=some (J (l+j)).t:=fq (fun l j h=>absurd h (im _)) (fun w Y a l j=>l6 j (fun b=>⟨rfl,rfl⟩) fun j h=>Z (ap (iv l j)) (a (l+1) j (sB h))) Y
theorem AaI{pa:Addr}(f:(il J Y 0).Nodup)(g:pa∉il J Y 0):oH J Y.length pa:=by
 have at':=fun j d=>vy (J:=J) Y 0 j d;have h:=R8 (J:=J) Y 0;refine⟨fun i j b d e=>?_,fun i j b d e=>?_,fun i j b d e=>?_,fun i b e=>?_,fun i b e=>?_⟩
 ·have a:=(at' i b).1;have c:=(at' j d).1;rw[df]at a c;have:=(po (av.mp a).1 f).mp (a.trans (Z e c.symm));exact Ad7 this
 ·have a:=(at' i b).2;have c:=(at' j d).2;rw[df]at a c;have:=(po (av.mp a).1 f).mp (a.trans (Z e c.symm));exact uJ this
 ·have a:=(at' i b).1;have c:=(at' j d).2;rw[df]at a c;have:=(po (av.mp a).1 f).mp (a.trans (Z e c.symm));exact zW this
 ·have a:=(at' i b).1;rw[df,e]at a;exact g (ay a)
 ·have a:=(at' i b).2;rw[df,e]at a;exact g (ay a)
theorem N9:gY (cF J Y P l)=(J l).f:=by refine Z cu ?_;rfl
theorem Ik:gY (iZ J Y P (l+1))=(J l).f:=by
 show gY (if _ then _ else _)=_;cases(aX Y l).wi with
 |true=>exact N9|false=>exact N9
theorem Ms:∃u us,iZ J Y P l=u::us:=by
 cases l with
 |zero=>exact⟨_,_,rfl⟩|succ l=>
  show ∃u us,(if(aX Y l).wi=true then tT J Y l::cF J Y P l else cF J Y P l)=u::us;cases(aX Y l).wi with
  |true=>exact⟨_,_,rfl⟩|false=>exact⟨_,_,cu⟩
theorem Gu{y:Addr}:W2 y (cF J Y P l)=(gY (iZ J Y P l)==y):=by
 refine CL (Ms) fun u a e=>Z cu (Z e ?_);rfl
theorem Wr{a:Addr}(c:b=(dO J Y 0).map (T.expr ea))(d:(il J Y 0).Nodup)(e:a∉il J Y 0):(gH J Y a b).Nodup:=Fw (ZS c d e).1
theorem yC{c:Addr}(d:oH J Y.length c)(h:b=(dO J Y 0).map (T.expr ea))(k:(gH J Y c b).Nodup){j:Nat}(g:j+1<Y.length):Dj (gH J Y c b) (J j).f=[cF J Y (.prog c b) (j+1)]:=by
 refine U4 k ((Dl h).mpr (.inr ⟨_,g,.inl rfl⟩)) (Z Gu (Z Ik (beq_self_eq_true _))) fun y l a=>?_;rcases(Dl h).mp l with e|⟨i,m,e|e⟩
 ·rw[e]at a;exact bU a
 ·rw[e]at a ⊢;rw[Gu]at a;cases i with
  |zero=>exact absurd (beq_iff_eq.mp a).symm (d.pf j (eP g))|succ i=>
   rw[Ik]at a;exact Z (d.f i j (eP m) (eP g) (beq_iff_eq.mp a)) rfl
 ·rw[e,cu]at a;exact bU a
theorem Z6{c:Addr}(d:oH J Y.length c)(f:b=(dO J Y 0).map (T.expr ea))(g:(gH J Y c b).Nodup)(h:0<Y.length):Dj (gH J Y c b) c=[cF J Y (.prog c b) 0]:=by
 refine U4 g ((Dl f).mpr (.inr ⟨_,h,.inl rfl⟩)) (Z Gu (beq_self_eq_true _)) fun y j a=>?_;rcases(Dl f).mp j with e|⟨i,k,e|e⟩
 ·rw[e]at a;exact bU a
 ·rw[e]at a ⊢;rw[Gu]at a;cases i with
  |zero=>rfl|succ i=>
   rw[Ik]at a;exact absurd (beq_iff_eq.mp a) (d.pf i (eP k))
 ·rw[e,cu]at a;exact bU a
theorem uT{g:Addr}(d:oH J Y.length g)(k:b=(dO J Y 0).map (T.expr ea)){j:Nat}(c:j+1=Y.length):Dj (gH J Y g b) (J j).f=[]:=by
 refine ZR fun y l a=>?_;rcases(Dl k).mp l with e|⟨i,h,e|e⟩
 ·rw[e]at a;exact bU a
 ·rw[e,Gu]at a;cases i with
  |zero=>exact absurd (beq_iff_eq.mp a).symm (d.pf j (rU c))|succ i=>
   rw[Ik]at a;have:=d.f i j (eP h) (rU c) (beq_iff_eq.mp a);exact AdQ c h this
 ·rw[e,cu]at a;exact bU a
theorem LY{y:Addr}:ZI y (tT J Y l::cF J Y P l)=((J l).f==y):=by
 show(!false&&gY (cF J Y P l)==y)=_;refine Z N9 ?_;rfl
theorem W0{pa:Addr}(d:oH J Y.length pa)(hb:b=(dO J Y 0).map (T.expr ea))(nd:(gH J Y pa b).Nodup){j:Nat}(hj:j<Y.length):CV (gH J Y pa b) (J j).f=[tT J Y j::cF J Y (.prog pa b) j]:=by
 refine U4 nd ((Dl hb).mpr (.inr ⟨_,hj,.inr rfl⟩)) (Z LY (beq_self_eq_true _)) fun y hy py=>?_;rcases(Dl hb).mp hy with e|⟨i,hi,e|e⟩
 ·rw[e]at py;exact bU py
 ·rw[e,cu]at py;exact bU py
 ·rw[e,LY]at py;exact Z e (Z (d.f i j hi hj (beq_iff_eq.mp py)) rfl)
theorem VE{c:Addr}(d:oH J Y.length c)(f:b=(dO J Y 0).map (T.expr ea)):CV (gH J Y c b) c=[]:=by
 refine ZR fun y g a=>?_;rcases(Dl f).mp g with e|⟨i,h,e|e⟩
 ·rw[e]at a;exact bU a
 ·rw[e,cu]at a;exact bU a
 ·rw[e,LY]at a;exact absurd (beq_iff_eq.mp a) (d.pf i h)
theorem gQ{y:Addr}:∀{l:Nat},y∈CS J a l↔∃j,a<j/\j<=l/\y=(J j).f:=by
 intro i;induction i with
 |zero=>
  exact⟨fun z=>absurd z am,fun b=>Az b fun j c d x=>absurd d (qq (Nat.zero_lt_of_lt c))⟩
 |succ l k=>
  by_cases h:l+1<=a
  ·exact Z (CF h) ⟨fun z=>absurd z am,fun b=>Az b fun j c d x=>absurd (bv c d) (i3.mpr h)⟩
  ·refine Z (GD (fh h)) (Z (propext bg) (Z (propext k) ?_));constructor
   ·rintro(e|⟨j,c,d,g⟩)
    ·exact⟨l+1,by exact Nat.lt_of_not_le h,ai _,e⟩
    ·exact⟨j,c,by exact hW d,g⟩
   ·rintro⟨j,c,d,g⟩;by_cases e:j=l+1
    ·exact .inl (Z g (Z e rfl))
    ·exact .inr ⟨j,c,by exact xR d e,g⟩
end
section
variable{J:Nat->iy}{Y:List Row}{P:T}{l a u:Nat}{w:Row}{x:String}{c:List T}
structure Lv(n:Nat)(m:Nat×Nat):Prop where
 l:m.1<n
 s:m.2<=4\/m.2=6
def sn(s i:Nat):BS×String:=if s=0 then(.own,bx "p" i)else if s=1 then(.own,bx "v" i)else if s=2 then(.cat,bx "e" i)else if s=3 then(.self,bx "s" i)else if s=4 then(.own,"arguments")else(.own,"q")
theorem uz:∀s∈[0,1,2,3,4,6],∀s'∈[0,1,2,3,4,6],∀i,i<6->∀j,j<6->sn s i=sn s' j->s=s':=by decide +kernel
theorem ZJ{i s:Nat}(h:s∈[0,1,2,3,4,6]):kb J (i,s)=⟨(sn s i).1,if s=2 then(J i).t else(J i).f,(sn s i).2⟩:=
 (cw.mpr ⟨rfl,cw.mpr ⟨rfl,cw.mpr ⟨rfl,cw.mpr ⟨rfl,cw.mpr ⟨rfl,List.forall_mem_singleton.mpr rfl⟩⟩⟩⟩⟩ :
  ∀s∈[0,1,2,3,4,6],kb J (i,s)=⟨(sn s i).1,if s=2 then(J i).t else(J i).f,(sn s i).2⟩) s h
theorem Js{pa:Addr}(d:oH J Y.length pa)(t:eZ J Y){m m':Nat×Nat}(h:Lv Y.length m)(h':Lv Y.length m')(e:kb J m=kb J m'):m=m':=by
 obtain⟨i,s⟩:=m;obtain⟨j,s'⟩:=m';have c:=(dd rfl:∀s,s<=6->s<=4\/s=6->s∈[0,1,2,3,4,6])
 have f:∀{s:Nat},s<=4\/s=6->s<=6:=fun z=>z.elim (fun z=>ab z (dd rfl)) ct;have c1:=c s (f h.s) h.s;have c2:=c s' (f h'.s) h'.s;rw[ZJ c1,ZJ c2]at e;have hs:s=s':=uz s c1 s' c2 i (t.lt h.l) j (t.lt h'.l) (congrArg (fun b:BK=>(b.sort,b.name)) e);rw[<-hs]at e ⊢;have n:=congrArg BK.node e;by_cases z:s=2
 ·exact Z (d.t i j h.l h'.l ((if_pos z).symm.trans (n.trans (if_pos z)))) rfl
 ·exact Z (d.f i j h.l h'.l ((if_neg z).symm.trans (n.trans (if_neg z)))) rfl
structure L2(k:fW)(H0 H:U)(L:Loc)(D:cD)(J:Nat->iy)(Y:List Row)(pa:Addr)(b:List T):Prop where
 an:cR k H0 H L D (gH J Y pa b) (aU [T.prog pa b] b)
 t:eZ J Y
 d:oH J Y.length pa
 hb:∃ea,b=(dO J Y 0).map (T.expr ea)
 nd:(gH J Y pa b).Nodup
def named(Y:List Row)(l:Nat):Bool:=(Aw Y Y 0).any fun z=>decide (z.o=some (l,3))
variable{k:fW}{H0 H I:U}{L:Loc}{D:cD}{pa:Addr}{b:List T}
theorem L2.ext(h:L2 k H0 H L D J Y pa b)(e:aD H I):L2 k H0 I L D J Y pa b:=
 ⟨⟨h.an.st.ext e,h.an.rooted,h.an.base.trans e.base,h.an.cap,h.an.aQ,h.an.cnt,h.an.lst,fun v a m f=>(h.an.pp v a m f).keep e.tps,h.an.iM.imp fun N h=>⟨h.1,h.2.keep e.tps⟩,h.an.no⟩,h.t,h.d,h.hb,h.nd⟩
theorem L2.us(h:L2 k H0 H L D J Y pa b):aU [T.prog pa b] b=(Aw Y Y 0).map (Xh J Y (.prog pa b)):=h.hb.elim fun c a=>Sy h.t a
theorem L2.mem(h:L2 k H0 H L D J Y pa b):c∈gH J Y pa b↔c=[T.prog pa b]\/∃j,j<Y.length/\(c=cF J Y (.prog pa b) j\/c=tT J Y j::cF J Y (.prog pa b) j):=h.hb.elim fun d a=>Dl a
theorem L2.f(h:L2 k H0 H L D J Y pa b)(a:l<Y.length):fT J Y l::iZ J Y (.prog pa b) l∈gH J Y pa b:=h.mem.mpr (.inr ⟨l,a,.inl cu.symm⟩)
theorem L2.tr(h:L2 k H0 H L D J Y pa b)(a:l<Y.length):tT J Y l::cF J Y (.prog pa b) l∈gH J Y pa b:=h.mem.mpr (.inr ⟨l,a,.inr rfl⟩)
theorem L2.lk(h:L2 k H0 H L D J Y pa b){z:Use}(a:z∈Aw Y Y 0):Ze J Y (.prog pa b) z:=zP h.t a
theorem L2.use(h:L2 k H0 H L D J Y pa b){u:List T×String}:u∈aU [T.prog pa b] b↔∃z∈Aw Y Y 0,u=(cF J Y (.prog pa b) z.l,z.y):=Z h.us (Z (propext bn) ⟨fun a=>Ad a fun z c e=>⟨z,c,e.symm⟩,fun a=>Ad a fun z c e=>⟨z,c,e.symm⟩⟩)
theorem L2.o6(h:L2 k H0 H L D J Y pa b):∀u∈aU [T.prog pa b] b,u.1∈gH J Y pa b:=fun u a=>by
 exact Ad (h.use.mp a) fun z c e=>Z e (h.mem.mpr (.inr ⟨z.l,(h.lk c).l,.inl rfl⟩))
theorem L2.hit(h:L2 k H0 H L D J Y pa b){z:Use}(g:z∈Aw Y Y 0){a:BK}(e:(Ak (cF J Y (.prog pa b) z.l) z.y).1=some a):∃m,z.o=some m/\a=kb J m/\m.1<=z.l/\Lv Y.length m/\(Ak (cF J Y (.prog pa b) z.l) z.y).2=CS J m.1 z.l:=by
 have q:=h.lk g;cases c:z.o with
 |none=>exact gU ((q.none c).symm.trans e)|some m=>
  refine Bt (q.some m c) fun d i y f=>?_;rw[f]at e;exact⟨m,rfl,(ag e).symm,d,⟨aI d q.l,.inl i⟩,by exact Z f rfl⟩
theorem L2.jz(h:L2 k H0 H L D J Y pa b):gf (gH J Y pa b) (aU [T.prog pa b] b) (F6 D.aQ) (aU [T.prog pa b] b) Kz (Ch D.aQ (aU [T.prog pa b] b)):=Np h.an.st.pure h.an.rooted h.o6 _ Kz (fun z=>id) Qt
theorem L2.bC(h:L2 k H0 H L D J Y pa b)(v:l<Y.length){p:BK}:p∈(Ch D.aQ (aU [T.prog pa b] b)).bC (J l).f↔∃m,kb J m=p/\Lv Y.length m/\∃z∈Aw Y Y 0,z.o=some m/\m.1<l/\l<=z.l:=by
 refine Z (propext (h.jz.mem ..)) ?_;constructor
 ·rintro(e|⟨u,w,q,g⟩)
  ·exact absurd e am
  ·refine Ad (h.use.mp w) fun z a e=>?_;rw[e]at q g;refine BU (h.hit a q) fun m c i r s x=>?_;rw[show(Ak (cF J Y (.prog pa b) z.l) z.y).2=_ from x]at g;refine Az (gQ.mp g) fun j n t A=>?_;have:=h.d.f l j v (aI t (h.lk a).l) A;exact⟨m,i.symm,s,z,a,c,by refine Z this ?_;exact n,by refine Z this ?_;exact t⟩
 ·rintro⟨m,i,s,z,a,c,r,n⟩;refine .inr ⟨(cF J Y (.prog pa b) z.l,z.y),h.use.mpr ⟨z,a,rfl⟩,?_,?_⟩
  ·exact Z (((h.lk a).some m c).2.2.2) (Z (ap i) rfl)
  ·exact Z (((h.lk a).some m c).2.2.2) (gQ.mpr ⟨l,r,n,rfl⟩)
theorem yN{b c:Type}{f:b->c}{M:List b}{ys:List c}(d:M.Nodup)(g:ys.Nodup)(a:∀x∈M,∀y∈M,f x=f y->x=y)(h:∀y,y∈ys↔∃x∈M,f x=y):ys.length=M.length:=by
 have i:(M.map f).Nodup:=i9.mpr (d.imp_of_mem fun j k n e=>n (a _ j _ k e));have:=((jI g i).mpr fun y=>(h y).trans List.mem_map.symm).length_eq;exact Z this (Z (ac ..) rfl)
theorem L2.rG(h:L2 k H0 H L D J Y pa b)(n:l<Y.length){c:List (Nat×Nat)}(p:c.Nodup)(i:∀m,m∈c↔∃z∈Aw Y Y 0,z.o=some m/\m.1<l/\l<=z.l):((Ch D.aQ (aU [T.prog pa b] b)).fG (J l).f).length=c.length:=by
 have j:∀m∈c,Lv Y.length m:=fun m g=>by
  exact Ir ((i m).mp g) fun z r s u A=>⟨ee u n,.inl ((h.lk r).some m s).2.1⟩
 exact Z (h.jz.inv.ln ..) (yN p (h.jz.inv.nd _) (fun x v y w e=>Js h.d h.t (j x v) (j y w) e) fun y=>Z (propext (h.bC n)) ⟨fun a=>Az a fun m e t q=>⟨m,(i m).mpr q,e⟩,fun a=>Ad a fun m g e=>⟨m,e,j m g,(i m).mp g⟩⟩)
theorem L2.cap(h:L2 k H0 H L D J Y pa b){m:Nat×Nat}(i:Lv Y.length m):D.cap (kb J m)=true↔(∃z∈Aw Y Y 0,z.o=some m/\m.1<z.l)\/(aW (aX Y m.1)=true/\(aX Y m.1).st=false/\(m.2=0\/m.2=6)):=by
 refine Z (propext (h.an.cap ..)) (or_congr ?_ ?_)
 ·constructor
  ·rintro⟨u,E,A,B⟩;refine Ad (h.use.mp E) fun z c e=>?_;rw[e]at A B;refine BU (h.hit c A) fun ad p F a r G=>Z (Js h.d h.t i r F) ⟨z,c,p,gE a fun q=>B ?_⟩;exact Z G (CF (ct q.symm))
  ·rintro⟨z,c,p,a⟩;refine⟨_,h.use.mpr ⟨z,c,rfl⟩,?_,?_⟩
   ·exact Z (((h.lk c).some m p).2.2.2) rfl
   ·refine Z (((h.lk c).some m p).2.2.2) ?_;have:(J z.l).f∈CS J m.1 z.l:=gQ.mpr ⟨z.l,a,ai _,rfl⟩;exact fun e=>by
     rw[show CS J m.1 z.l=[]from e]at this;exact absurd this am
 ·constructor
  ·rintro⟨v,K,H',a,n,y,C,e⟩;rcases h.mem.mp H' with g|⟨j,w,g|g⟩
   ·rw[(bS g).1]at a;exact bU a
   ·rw[cu]at g;rw[(bS g).1]at a n C e;rw[h.t.args w]at a;rcases ji.mp C with z|z
    ·rw[z]at e;have:=Js h.d h.t i (⟨w,.inl (bq 4)⟩:Lv Y.length (j,0)) e;exact Z this ⟨a,n,.inl rfl⟩
    ·rw[z]at e;have:=Js h.d h.t i (⟨w,.inr rfl⟩:Lv Y.length (j,6)) e;exact Z this ⟨a,n,.inr rfl⟩
   ·rw[(bS g).1]at a;exact bU a
  ·rintro⟨a,n,x⟩;obtain⟨l,s⟩:=m;refine⟨fT J Y l,_,h.f i.l,(h.t.args i.l).trans a,n,?_⟩;have x:s=0\/s=6:=x;rcases x with e|e
   ·exact Z e ⟨bx "p" l,ji.mpr (.inl rfl),rfl⟩
   ·exact Z e ⟨"q",ji.mpr (.inr rfl),rfl⟩
theorem L2.named(h:L2 k H0 H L D J Y pa b)(i:l<Y.length):Be (J l).f (bx "s" l) (aU [T.prog pa b] b)=named Y l:=by
 refine ub.mpr ?_;unfold Be Mine.Lake.named;refine Z (propext fe) (Z (propext fe) ?_);constructor
 ·rintro⟨u,j,e⟩;refine aV ((be _ _).mp e) fun q g=>Ad (h.use.mp j) fun z a n=>?_;rw[n]at g;exact BU (h.hit a (of_decide_eq_true g)) fun m c o y p y=>⟨z,a,decide_eq_true (Z c (Z (ap (Js h.d h.t (⟨i,.inl (dd rfl)⟩:Lv Y.length (l,3)) p o)) rfl))⟩
 ·rintro⟨z,a,e⟩;have c:=of_decide_eq_true e;refine⟨_,h.use.mpr ⟨z,a,rfl⟩,(be _ _).mpr ⟨decide_eq_true ((h.lk a).four _ c).2.symm,decide_eq_true (Z (((h.lk a).some _ c).2.2.2) ?_)⟩⟩;rfl
def sorts(Y:List Row)(l:Nat):List (Nat×Nat):=[(l,0),(l,6)]++((if aW (aX Y l)then[(l,4)]else[])++[(l,1)])++(if Mine.Lake.named Y l then[(l,3)]else[])++[(l,2)]
theorem L2.bG(h:L2 k H0 H L D J Y pa b)(a:l<Y.length):bG (aU [T.prog pa b] b) (gH J Y pa b) (fT J Y l)=(sorts Y l).map (kb J):=by
 refine AA h.hb fun f c=>?_;have e:=W0 h.d c h.nd a;unfold Mine.Lake.bG sorts;refine Z e (Z (R5 h.t a) (Z (DB (h.t.self a)) (Z (h.named a) (Z bP (Z bP (Z bP (Z bP (Z bP (Z bP ?_)))))))));cases aW (aX Y l)<;>cases Mine.Lake.named Y l<;>rfl
theorem V9{a:Type}{m x:a}{c:Bool}:m∈(if c then[x]else[])↔c=true/\m=x:=by
 cases c
 ·exact⟨fun z=>(nomatch z),fun z=>absurd z.1 ax⟩
 ·exact⟨fun z=>⟨rfl,al.mp z⟩,fun z=>al.mpr z.2⟩
theorem bY{m:Nat×Nat}:m∈sorts Y l↔m.1=l/\(m.2=0\/m.2=6\/(aW (aX Y l)=true/\m.2=4)\/m.2=1\/(Mine.Lake.named Y l=true/\m.2=3)\/m.2=2):=by
 unfold sorts;refine Z (propext bX) (Z (propext bX) (Z (propext bX) (Z (propext bX) (Z (propext V9) (Z (propext V9) (Z (propext al) (Z (propext al) (Z (propext bg) (Z (propext al) ?_)))))))));have f:∀{t:Nat},m=(l,t)->m.1=l/\m.2=t:=fun z=>⟨congrArg Prod.fst z,congrArg Prod.snd z⟩
 constructor
 ·rintro((((z|z)|z|z)|z)|z)
  ·exact⟨(f z).1,.inl (f z).2⟩
  ·exact⟨(f z).1,.inr (.inl (f z).2)⟩
  ·exact⟨(f z.2).1,.inr (.inr (.inl ⟨z.1,(f z.2).2⟩))⟩
  ·exact⟨(f z).1,.inr (.inr (.inr (.inl (f z).2)))⟩
  ·exact⟨(f z.2).1,.inr (.inr (.inr (.inr (.inl ⟨z.1,(f z.2).2⟩))))⟩
  ·exact⟨(f z).1,.inr (.inr (.inr (.inr (.inr (f z).2))))⟩
 ·rintro⟨e,z|z|z|z|z|z⟩
  ·exact .inl (.inl (.inl (.inl (kr e z))))
  ·exact .inl (.inl (.inl (.inr (kr e z))))
  ·exact .inl (.inl (.inr (.inl ⟨z.1,kr e z.2⟩)))
  ·exact .inl (.inl (.inr (.inr (kr e z))))
  ·exact .inl (.inr ⟨z.1,kr e z.2⟩)
  ·exact .inr (kr e z)
theorem ZE{s:Nat}{A B:Prop}(h:s<=4)(h4:s=4->A)(h3:s=3->B):s=0\/s=6\/(A/\s=4)\/s=1\/(B/\s=3)\/s=2:=
 ((dd rfl:∀s,s<=4->(s=0\/s=1\/s=2)\/s=4\/s=3) s h).elim (fun z=>z.elim .inl fun z=>.inr (.inr (.inr (z.elim .inl fun z=>.inr (.inr z))))) fun z=>.inr (.inr (z.elim (fun z=>.inl ⟨h4 z,z⟩) fun z=>.inr (.inr (.inl ⟨h3 z,z⟩))))
theorem wM{s:Nat}{A B:Prop}(h:s=0\/s=6\/(A/\s=4)\/s=1\/(B/\s=3)\/s=2):s<=4\/s=6:=
 h.elim (fun z=>.inl (z▸bq 4)) fun h=>h.elim .inr fun h=>.inl (h.elim (fun z=>z.2▸ai 4) fun h=>h.elim (fun z=>z▸dd rfl) fun h=>h.elim (fun z=>z.2▸dd rfl) fun z=>z▸dd rfl)
theorem m7:(sorts Y l).Nodup:=by
 unfold sorts;have e:∀s t:Nat,((l,s)=(l,t))↔s=t:=fun s t=>by refine Z (Prod.mk.injEq ..) ?_;exact⟨fun z=>z.2,fun z=>⟨rfl,z⟩⟩
 cases aW (aX Y l)<;>cases Mine.Lake.named Y l<;>simp[cr,e]
theorem TV:(sorts Y l).length=4+(if aW (aX Y l)then 1 else 0)+(if Mine.Lake.named Y l then 1 else 0):=by
 unfold sorts;cases aW (aX Y l)<;>cases Mine.Lake.named Y l<;>rfl
theorem JV{a b:Type}{f:a->b}{p:b->Bool}(M:List a):(M.map f).countP p=(M.filter fun x=>p (f x)).length:=by
 refine Z List.countP_map (Z kR ?_);rfl
theorem L2.cells(h:L2 k H0 H L D J Y pa b)(i:l<Y.length){ks:List (Nat×Nat)}(t:ks.Nodup)
  (u:∀m,m∈ks↔(m.1=l/\∃z∈Aw Y Y 0,z.o=some m/\l<z.l)\/(aW (aX Y l)=true/\(aX Y l).st=false/\(m=(l,0)\/m=(l,6)))):D.nc (J l).f=ks.length/\D.nl (J l).f+ks.length=(sorts Y l).length:=by
 have c:=h.an.cnt _ _ (h.f i) rfl;rw[h.bG i]at c;have e:((sorts Y l).filter fun m=>D.cap (kb J m)).Perm ks:=(jI (m7.sublist (k6 ..)) t).mpr fun m=>by
  refine Z (propext List.mem_filter) (Z (propext (u ..)) (Z (propext bY) ?_));constructor
  ·rintro⟨⟨e,v⟩,w⟩;have j:Lv Y.length m:=⟨e▸i,wM v⟩
   rcases(h.cap j).mp w with⟨z,d,g,a⟩|⟨a,n,p⟩
   ·exact .inl ⟨e,z,d,g,e▸a⟩
   ·rw[e]at a n;exact .inr ⟨a,n,p.imp (fun q=>kr e q) (fun q=>kr e q)⟩
  ·rintro(⟨e,z,d,g,a⟩|⟨a,n,p⟩)
   ·have q:=(h.lk d).some m g;have r:=((h.lk d).four m g).1;have j:Lv Y.length m:=⟨e▸i,.inl q.2.1⟩
    exact⟨⟨e,(ZE q.2.1 (fun z=>by have:=(r z).2;rwa [<-(r z).1,e]at this) fun z=>fe.mpr ⟨_,d,decide_eq_true (g.trans (congrArg some (kr e z)))⟩)⟩,(h.cap j).mpr (.inl ⟨z,d,g,e▸a⟩)⟩
   ·have e:m.1=l:=p.elim (fun z=>by exact Z z rfl) fun z=>by exact Z z rfl
    have s:m.2=0\/m.2=6:=p.imp (fun z=>by exact Z z rfl) fun z=>by exact Z z rfl
    have j:Lv Y.length m:=⟨e▸i,s.elim (fun z=>.inl (z▸bq 4)) .inr⟩
    exact⟨⟨e,s.elim .inl fun z=>.inr (.inl z)⟩,(h.cap j).mpr (.inr ⟨e▸a,e▸n,s⟩)⟩
 refine⟨?_,?_⟩
 ·exact Z (c.1) (Z (JV ..) (Z e.length_eq rfl))
 ·refine Z (c.2) (Z (ap e.length_eq) (Z (JV ..) (Z (ap kR) (Z (ap kR) (Z (ds ..) (Eq.trans (congrArg ((sorts Y l).countP (fun m=>D.cap (kb J m))+·) (List.countP_congr fun m y=>?_)) (List.length_eq_countP_add_countP fun m=>D.cap (kb J m)).symm))))));cases D.cap (kb J m)<;>decide
def qO(J:Nat->iy)(Y:List Row)(P:T)(j:Nat):List T:=l6 j [P] fun j=>cF J Y P j
variable{d:Nat}{X:Cx}{G:String->V}{la:Addr}{ns:List Int}{T':WT}{AH W:WS}{m:List V}{Q:bu->U->List V->Prop}
theorem wC(H':Nat->U->List V->Prop)(n:Nat)(b:H' n H m)(h:∀n H m,H' n H m->T' H m fun c a=>if c then AH a m (qU H' n (Hh W Q))else W a m Q):az (DC T' AH) W H m Q:=⟨H',n,b,fun n H m d=>h n H m d⟩
theorem Aa0(cm:Addr->Bool){x y:Addr}{M:List V}(b:H x=some (.list M))(c:H y=some (.list [])):Bv cm H .NotEq (.ref x) (.ref y)=some (!M.isEmpty):=by
 refine Z Dv (Z DI (Z b (Z c ?_)));cases M with
 |nil=>rfl|cons a d=>rfl
theorem L2.lst(h:L2 k H0 H L D J Y pa b)(c:Code X G k){v:T}{vs:List T}(m:v::vs∈gH J Y pa b)(hf:v.aK=true){j:At}(hj:j∈[At.params,.aM,.aF,.aL,.aN]):mG X H (L.sc v.aq) j (.ref (L.ls v.aq j))/\H (L.ls v.aq j)=some (.list (Er L (gH J Y pa b) v j)):=by
 refine Ad (h.an.st.fn v vs m hf) fun f ef zf=>?_;have hj2:=(dd rfl:∀j∈[At.params,.aM,.aF,.aL,.aN],j∈aY) j hj;exact⟨c.fS ef (zf.lst j hj2) rfl rfl,by exact Z (h.an.st.ls v vs m hf j hj2) (Z (h.an.lst v vs m hf j hj) rfl)⟩
theorem L2.qO(h:L2 k H0 H L D J Y pa b){j:Nat}(c:j<=Y.length):∃v vs,qO J Y (.prog pa b) j=v::vs/\v::vs∈gH J Y pa b/\v.aK=true/\Er L (gH J Y pa b) v .aL=if j<Y.length then[aZ L (cF J Y (.prog pa b) j)]else[]:=by
 refine AA h.hb fun i a=>?_;cases j with
 |zero=>
  have g:=h.t.ok.n1;exact⟨_,_,rfl,.head _,rfl,by refine Z (if_pos g) ?_;exact congrArg (List.map (aZ L)) (Z6 h.d a h.nd g)⟩
 |succ j=>
  refine⟨_,_,cu,h.f c,rfl,?_⟩;by_cases e:j+1<Y.length
  ·exact Z (if_pos e) (congrArg (List.map (aZ L)) (yC h.d a h.nd e))
  ·exact Z (if_neg e) (congrArg (List.map (aZ L)) (uT h.d a (AdO c e)))
inductive Y9(H0:U)(L:Loc)(J:Nat->iy)(Y:List Row)(P:T)(fl:Addr)(n:Nat)(H:U)(m:List V):Prop where
 |mk (p:V) (j:Nat):j+n=Y.length->m=[p,.ref fl,aZ L (qO J Y P j)]->bK (fun a=>a=fl) H0 H->H fl=some (.list ((ej j).map fun i=>aZ L (cF J Y P i)))->Y9 H0 L J Y P fl n H m
theorem Wc(c:Code X G k)(g:Bj X G la ns)(h:L2 k H0 H L D J Y pa b){Q:V->U->Prop}(q:∀I sl,aD H I->I sl=some (.list ((ej Y.length).map fun i=>aZ L (cF J Y (.prog pa b) i)))->Q (.ref sl) I):aG X (d+1) H (G "_law_scopes") [.ref pa] Q:=by
 refine Ad (h.an.st.nd _ _ (h.mem.mpr (.inl rfl))) fun W R es=>g.scopes.call rfl (Fh (AX A4 (bq _) fun fl a=>Am (Aa rfl rfl) (c.fN (Ah a R) es rfl rfl) _ fun r E=>?_));have B:∀{z o},H z=some o->z≠fl:=fun e=>An a e;refine wC (Y9 H L J Y (.prog pa b) fl) Y.length ⟨_,0,df _,rfl,fun z o t e=>Ah E (Ah a e),Ah E (U.ak ..)⟩ ?_;rintro n ws m ⟨p,j,w,rfl,A,C⟩;refine AN (h.qO (Nat.le.intro w)) fun v F T H' ad K=>aV (h.lst c H' ad (j:=.aL) (dd rfl)) fun rL xs=>Z T (Ad (h.an.st.fn v F H' ad) fun f x AH=>?_);have y:=A _ _ (B x) x;have l:=A _ _ (B xs) xs;have N:∀{Ab:U},Ab (L.sc v.aq)=some (.inst k.S f)->Pv (Aj X .aL (O 2)) Ab [p,.ref fl,aZ L (v::F)] (.ref (L.ls v.aq .aL)):=fun e=>Am (Aa rfl rfl) (c.fS e (AH.lst _ (dd rfl)) rfl rfl);refine GH (N y) (AX A4 (bq _) fun e s=>⟨_,Aa0 X.cm (Ah s l) (U.ak ..),(Z K ?_)⟩);by_cases u:j<Y.length
 ·refine Z (if_pos u) (lL ?_);rw[K,if_pos u]at l;refine Id (BR (N (Ah s y)) (Ah s l) rfl rfl) (Ib (Aa rfl rfl) (Ah s C) ?_ (Aa rfl rfl) (cJ (wZ w u) ⟨p,j+1,by exact Aez w u,rfl,(A.fresh s).set rfl,?_⟩))
  ·have aj:=h.t.ok.n5;exact sz (Z (ac ..) (Z fo (yf w aj)))
  ·refine Z (U.ak ..) (Z List.range_succ (Z bP ?_));rfl
 ·refine Z (if_neg u) ?_;have:j=Y.length:=u5 w u;rw[this]at C;exact gF (A9 (Aa rfl rfl) (q _ fl (fun z o P=>Ah s (A z o (B P) P)) (Ah s C)))
variable{ES:List (List T)}{US:List (List T×String)}
inductive jM(ES:List (List T))(st:dj)(H:U)(o:Addr)(kd:String)(n:Nat)(a:Addr)(y:V)(m:Nat):Prop where
 |here:TupIs H y [.str kd,.int n]->kd≠"up"->a=o->jM ES st H o kd n a y m
 |up (ps:List Addr) (b:BK) (i:Nat):TupIs H y [.str "up",.int i]->kd="cell"->Led st b n ps false i->bf ES ps a o->m=ps.length->jM ES st H o kd n a y m
variable{n:Nat}{ps:List Addr}
theorem jM.next{st:dj}{o:Addr}{d:String}{a:Addr}{b:BK}{f:Bool}{i:Nat}{t:Addr}(c:d="cell")(e:Led st b n ps f i)(g:bf ES ps a o)(h:H t=some (.tup [.str (if f then "cell" else "up"),.int (if f then(true,n)else(false,i)).2])):jM ES st H o d n a (.ref t) ps.length:=by
 cases f with
 |true=>
  cases ps with
  |nil=>exact .here ⟨t,rfl,c▸h⟩ (by refine Z c ?_;decide) g|cons p ps=>exact bU e.1.symm
 |false=>exact .up ps b i ⟨t,rfl,h⟩ c e g rfl
inductive Ra(H:U)(L:Loc)(ES:List (List T))(cp:dj)(o:Addr)(kd:String)(n j:Nat)(aaa:U)(mm:List V):Prop where
 |mk:∀a' y' v2 v3,(mm=[.ref (L.sc a'),y',v2,v3])->(aD H aaa)->(jM ES cp aaa o kd n a' y' j)->Ra H L ES cp o kd n j aaa mm
theorem Uc(c:Code X G k)(g:Bj X G la ns)(st:St k H0 H L D ES)(hr:Ba ES)(hS:∀v vs,v::vs∈ES->vs.length<=20){cp:dj}{N:Nat}(hC:cz H L D ES cp N)(hN:N<=500000){o a:Addr}{kd:String}{m:Nat}{y:V}(hl:jM ES cp H o kd n a y m){Q:V->U->Prop}
  (q:∀I r yp,aD H I->I r=some (.tup [.ref (L.sc o),.ref yp])->I yp=some (.tup [.str kd,.int n])->Q (.ref r) I):aG X (d+23) H (G "_law_led") [.ref (L.sc a),y] Q:=by
 refine g.led.call rfl (Tx (Ra H L ES cp o kd n) m ⟨a,y,_,_,rfl,aD.refl H,hl⟩ ?_);rintro j aaa mm ⟨a',y',v2,v3,rfl,hE,hL⟩;cases hL with
 |here h hk ha=>
  subst ha;refine Ad h fun p zq1 hp=>?_;subst zq1;have p1:Pv (O 1) aaa [.ref (L.sc a'),.ref p,v2,v3] (.ref p):=Aa rfl rfl;exact .stop (aB (GP p1 hp rfl rfl) Af (congrArg some (decide_eq_false hk))) (Bh (bV (AD (Aa rfl rfl) p1) (dd rfl:2<=aT) fun t ht=>q _ t p (hE.trans (aD.set ht)) (U.ak ..) (Ah ht hp)))
 |up ps b i h hk hLd lc hm=>
  subst hm;cases ps with
  |nil=>exact bU hLd|cons p0 ps=>
  refine Ad h fun p zq1 hp=>?_;subst zq1;have p1:Pv (O 1) aaa [.ref (L.sc a'),.ref p,v2,v3] (.ref p):=Aa rfl rfl;refine Di hLd fun z z zr=>AQ zr fun f' i' hpr hLd'=>?_;obtain⟨e0,a2,⟨v,vs,hv,hvf,ev,hvs,hfa⟩,lc2⟩:=lc;subst e0 ev;have st1:=st.ext hE;refine Ad (st1.fn v vs hv hvf) fun f ef zf=>Ad (((hC.keep hE.tps).t v vs hv hvf).n8 hpr) fun x hx zr=>Ad zr fun r zq3 hr2=>?_;subst zq3;have hil:=bv (av.mp hpr).1 (hC.ln v vs hv hvf).2;have ps0:∀{m:List V},m.getD 0 .aa=.ref (L.sc v.aq)->Pv (O 0) aaa m (.ref (L.sc v.aq)):=fun e=>Aa e rfl;refine .go (aB (GP p1 hp rfl rfl) Af rfl) (ZO (Fm (Am (ps0 rfl) (c.fS ef (zf.lst .aJ (dd rfl)) rfl rfl)) (GP p1 hp rfl rfl) (.list (st1.ls v vs hv hvf .aJ (dd rfl)) (ge i) (Int.lt_trans (li.mpr (bv hil hN)) (dd rfl)) hx)) hr2 rfl ?_);cases vs with
  |nil=>exact absurd rfl hvs|cons u us=>
  have hvm:=st.pure.lY _ _ _ hv;refine Ad (Hy c st1 hr 21 u us hvm (cv (hS u us hvm))) fun fm hfm hqm=>AL (Bz (Am (ps0 rfl) (c.fS ef zf.parent rfl rfl)) hfm A4 (hqm _ (Z hfa ?_)) (dd rfl));have fin:∀(s:String),s=(if f' then "cell" else "up")->Pv (O 3) aaa [.ref (L.sc a2),.ref p,.bool (if f' then(true,n)else(false,i')).1,.int (if f' then(true,n)else(false,i')).2] (.int (if f' then(true,n)else(false,i')).2)->Bg (Ac (Ae (.str s)) (Ac (O 3) Ag)) aaa [.ref (L.sc a2),.ref p,.bool (if f' then(true,n)else(false,i')).1,.int (if f' then(true,n)else(false,i')).2] fun v I=>qU (Ra H L ES cp o kd n) (ps.length+1) (Hh (AT (Bg (Ac (O 0) (Ac (O 1) Ag)))) fun fl I z=>Q fl.val I) .next I [.ref (L.sc a2),v,.bool (if f' then(true,n)else(false,i')).1,.int (if f' then(true,n)else(false,i')).2]:=fun s es p3=>
   bV (AD Af p3) (dd rfl:2<=aT) fun t ht=>cJ (eK _) ⟨a2,_,_,_,rfl,hE.trans (aD.set ht),.next hk hLd' lc2 (Z (U.ak ..) (Z es rfl))⟩
  cases f' with
  |true=>exact Vb (Ev (AJ (Aa rfl rfl)) (fin "cell" rfl (Aa rfl rfl)))|false=>exact Vb (Es (AJ (Aa rfl rfl)) (fin "up" rfl (Aa rfl rfl)))
variable{cm:Addr->Bool}
theorem Qp{p t:Addr}(a:H p=some (.tup [.str "global",.str x]))(b:H t=some (.tup [.str "global",.str x])):Bv cm H .NotEq (.ref p) (.ref t)=some false:=by
 simp[GK,Dv,DI,MI,Jv,a,b,CD,Gx]
theorem L5(h:cR k H0 H L D ES US){b:BK}{o:Addr}(d:Own US ES b o):∃n,D.aQ b=some (if D.cap b then "cell" else "local",n):=by
 refine AN d fun v f g a z c=>Z (h.aQ v f g a b c) ?_;unfold CK;cases e:(bG US ES v).findIdx? (fun j=>decide (j=b))with
 |none=>exact absurd rfl (of_decide_eq_false (gz.mp e b c))|some i=>exact⟨_,rfl⟩
theorem TH{bs:List BK}{b:BK}{i:Nat}(e:bs.Nodup)(h:bs[i]?=some b):bs.findIdx? (fun f=>decide (f=b))=some i:=AA (av.mp h) fun a c=>ib.mpr ⟨a,decide_eq_true c,fun j d z=>(ic.mp e) j i (ee d a) a d ((of_decide_eq_true z).trans c.symm)⟩
structure vY(D:cD)(ES:List (List T))(US:List (List T×String))(u:List T×String)(b:BK)(o:Addr)(kd:String)(n:Nat)(s:String)(j:Int)(m:Nat):Prop where
 own:Own US ES b o
 aQ:D.aQ b=some (kd,n)
 at':GE D (Ch D.aQ US) u.1 u.2=some [.str s,.int j]
 ne:s≠"global"
 pR:∀H y,TupIs H y [.str s,.int j]->jM ES (Ch D.aQ US) H o kd n (gY u.1) y m
theorem Sn(b:Bool):(if b then "cell" else "local")≠"global"/\(if b then "cell" else "local")≠"up":=by cases b<;>decide
theorem Rn(h:cR k H0 H L D ES US)(x:∀u∈US,u.1∈ES){u:List T×String}(g:u∈US){b:BK}(e:(Ak u.1 u.2).1=some b):∃o A n s j m,vY D ES US u b o A n s j m:=by
 have z:=h.st.pure;refine AN (EA z h.rooted g (x u g) e) fun v B C q c E=>?_;have r:Own US ES b v.aq:=⟨v,B,C,q,rfl,E⟩
 refine AA (L5 h r) fun n l=>?_;cases a:(Ak u.1 u.2).2 with
 |nil=>
  rw[a]at c;exact⟨v.aq,_,n,_,n,0,r,l,by refine Z (Cl e a) (Z l ?_);rfl,(Sn _).1,fun H y t=>.here t (Sn _).2 c⟩
 |cons p G=>
  have d:(Ak u.1 u.2).2≠[]:=Z a (dP _ _);have F:D.cap b=true:=(h.cap b).mpr (.inl ⟨u,g,e,d⟩);have H':=Np z h.rooted (aQ:=D.aQ) x US Kz (fun Y h=>h) Qt;refine AA (H'.led u g b e d) fun i w=>?_;rw[show F6 D.aQ b=n by unfold F6;exact Z l rfl]at w;have f:=w;rw[a]at f;exact⟨v.aq,_,n,"up",i,_,r,l,by refine Z (SL e a) ?_;exact congrArg (qv rm) (TH (H'.inv.nd p) f.2.1),dd rfl,fun H y t=>.up _ b i t (by refine Z F ?_;rfl) w c rfl⟩
theorem L2.len(h:L2 k H0 H L D J Y pa b){v:T}{vs:List T}(m:v::vs∈gH J Y pa b):vs.length<=20:=by
 have c:=h.t.ok.n5;rcases h.mem.mp m with m|⟨j,d,m|m⟩
 ·refine Z ((bS m).2) ?_;decide
 ·have a:=OJ (J:=J) (Y:=Y) (P:=.prog pa b) (l:=j);rw[<-m,d4]at a;exact tV c d a
 ·have a:=OJ (J:=J) (Y:=Y) (P:=.prog pa b) (l:=j);exact Z ((bS m).2) (uh c d a)
variable{mm:Nat×Nat}
theorem L2.own(h:L2 k H0 H L D J Y pa b)(a:mm.1<Y.length)(c:mm∈sorts Y mm.1):Own (aU [T.prog pa b] b) (gH J Y pa b) (kb J mm) (J mm.1).f:=
 ⟨_,_,h.f a,rfl,rfl,by refine Z (h.bG a) ?_;exact bn.mpr ⟨mm,c,rfl⟩⟩
theorem L2.sorts(h:L2 k H0 H L D J Y pa b){z:Use}(a:z∈Aw Y Y 0)(c:z.o=some mm):mm.1<Y.length/\mm∈sorts Y mm.1:=by
 have q:=(h.lk a).some mm c;have d:=((h.lk a).four mm c).1;refine⟨aI q.1 (h.lk a).l,bY.mpr ⟨rfl,ZE q.2.1 (fun z=>by refine Z ((d z).1) ?_;exact(d z).2) fun z=>fe.mpr ⟨_,a,decide_eq_true (c.trans (congrArg some (kr rfl z)))⟩⟩⟩
theorem L2.find(h:L2 k H0 H L D J Y pa b)(c:Code X G k){v:T}{vs:List T}(m:v::vs∈gH J Y pa b){M:List V}(n:GE D (Ch D.aQ (aU [T.prog pa b] b)) (v::vs) x=some M):
  ∃f,aO X H (aZ L (v::vs)) (ae "find") f/\∀i,aD H i->∀Q:V->U->Prop,(∀I y,aD i I->TupIs I y M->Q y I)->aG X (d+4) i f [aZ L (v::vs),.str x] Q:=by
 cases o:v.aK with
 |true=>
  refine Ad (h.an.st.fn v vs m o) fun f e z=>Ad c.jy fun p a xs=>⟨_,aO.inst (c.cx.cls _ c.jb) xs e,fun i j Q q=>?_⟩
  have g:=h.ext j;exact Ad g.an.iM fun N r l=>Z (ap a) (c.gh.call rfl (Bh (Ao (AD (Aa rfl rfl) (Aa rfl rfl)) (Fc c g.an.st g.an.rooted l m (h.len m) n q) (ai _))))
 |false=>
  refine Ad (h.an.st.ca v vs m o) fun f e z=>Ad c.jJ fun p a xs=>⟨_,aO.inst (c.cx.cls _ c.mz) xs e,fun i j Q q=>?_⟩
  have g:=h.ext j;exact Ad g.an.iM fun N r l=>Z (ap a) (c.cV.call rfl (Bh (Ao (AD (Aa rfl rfl) (Aa rfl rfl)) (Fc c g.an.st g.an.rooted l m (h.len m) n q) (ai _))))
def Ia(mm:Nat×Nat):String:=if mm.2=4 then "arguments" else(nms mm.1).getD mm.2 ""
theorem xM(t:eZ J Y)(a:mm.1<Y.length)(b:mm∈sorts Y mm.1)(c:mm.2≠2)(d:mm.2≠6):Ak (cF J Y P mm.1) (Ia mm)=(some (kb J mm),[]):=by
 obtain⟨j,s⟩:=mm;have q:=(bY.mp b).2;have f:CS J j j=[]:=CF (ai _);refine Z (ap f) ?_;have g:s=0\/s=6\/(aW (aX Y j)=true/\s=4)\/s=1\/(named Y j=true/\s=3)\/s=2:=q;rcases g with e|e|⟨h,e⟩|e|⟨_,e⟩|e
 ·exact Z e (tC t a (ai _))
 ·exact absurd e d
 ·exact Z e (rJ t a h)
 ·exact Z e (Vh t a (ai _))
 ·exact Z e (sG t a (ai _))
 ·exact absurd e c
theorem L2.cU(h:L2 k H0 H L D J Y pa b)(c:Code X G k)(a:l<Y.length):mG X H (L.sc (J l).t) .cU (.ref (L.bd (kb J (l,2))))/\∃g,H (L.bd (kb J (l,2)))=some (.inst k.B g)/\mq H D (kb J (l,2)) g:=Ad (h.an.st.ca _ _ (h.tr a) rfl) fun f d e=>⟨c.fC d (e.name (bx "e" l) (al.mpr rfl)).2 rfl rfl,h.an.st.bd _ _ (h.tr a) _ (Pd rfl (al.mpr rfl))⟩
theorem L2.aN(h:L2 k H0 H L D J Y pa b)(c:Code X G k)(a:l<Y.length):mG X H (L.sc (J l).f) .aN (.ref (L.ls (J l).f .aN))/\H (L.ls (J l).f .aN)=some (.list [.ref (L.sc (J l).t)]):=by
 refine AA h.hb fun i g=>?_;have q:=h.lst c (h.f a) rfl (j:=.aN) (dd rfl);refine⟨q.1,?_⟩;have e:Er L (gH J Y pa b) (fT J Y l) .aN=[.ref (L.sc (J l).t)]:=congrArg (List.map (aZ L)) (W0 h.d g h.nd a);exact Z (ap e) q.2
theorem P0(c:Code X G k)(g:Bj X G la ns)(h:L2 k H0 H L D J Y pa b)(i:mm.1<Y.length)(C:mm∈sorts Y mm.1)(E:mm.2≠6){s:String}(F:D.aQ (kb J mm)=some (s,n)){a:Addr}(Ab:bW H a mm){Q:V->U->Prop}(q:∀I y,aD H I->TupIs I y [.str s,.int n]->Q y I):
  aG X (d+5) H (G "_law_own_place") [.ref (L.sc (J mm.1).f),.ref a] Q:=by
 refine g.ownPlace.call rfl (ZO (M:=[ni mm.1,ni mm.2]) (Aa (v:=.ref a) rfl rfl) Ab rfl ?_);have t:=aB (X:=X) (op:=.Eq) (A:=O 3) (H:=H) (m:=[.ref (L.sc (J mm.1).f),.ref a,ni mm.1,ni mm.2,.aa]) (Aa rfl rfl) (Af (v:=ni 2)) (Ff X.cm mm.2 2);by_cases j:mm.2=2
 ·rw[decide_eq_true j]at t;have R:(mm.1,2)=mm:=kr rfl j.symm;refine aV (h.aN c i) fun S AH=>Cr (h.cU c i) fun H' aj ad K=>?_;rw[R]at H' ad K;exact Ad (F▸K.aQ:cC H (aj .place) (some (s,n))) fun p w x=>EU t (NM (Am (Am (BR (n:=0) (Am (Aa (v:=.ref (L.sc (J mm.1).f)) rfl rfl) S) AH rfl rfl) H') (c.fB ad w rfl rfl)) (q H _ (aD.refl H) ⟨p,rfl,x⟩))
 ·rw[decide_eq_false j]at t;have xs:=xM (P:=.prog pa b) h.t i C j E;have W:GE D (Ch D.aQ (aU [T.prog pa b] b)) (fT J Y mm.1::iZ J Y (.prog pa b) mm.1) (Ia mm)=some [.str s,.int n]:=by
   rw[<-cu,Cl (by rw[xs]) (by rw[xs]),F];rfl
  have u:=aB (X:=X) (op:=.Eq) (A:=O 3) (H:=H) (m:=[.ref (L.sc (J mm.1).f),.ref a,ni mm.1,ni mm.2,.aa]) (Aa rfl rfl) (Af (v:=ni 4)) (Ff X.cm mm.2 4);refine Ad (h.find (d:=d) c (h.f i) W) fun f ws rL=>Bs t (Bh (Aa (v:=aZ L (fT J Y mm.1::iZ J Y (.prog pa b) mm.1)) rfl rfl _ ⟨f,ws,?_⟩));have l:=fun H1 N=>(rL H1 N _ fun I y e hy=>q I y (N.trans e) hy).calls;have z:=h.t.lt i;by_cases o:mm.2=4
  ·rw[decide_eq_true o]at u;have:=l H (aD.refl H);rw[show Ia mm="arguments" from if_pos o]at this;exact CW (Ev u (Af (v:=.str "arguments") _ this))
  ·rw[decide_eq_false o]at u;have on:Ia mm=(nms mm.1).getD mm.2 "":=if_neg o;have r:mm.2<=3:=(bY.mp C).2.elim (fun e=>Z e (dd rfl)) fun h=>h.elim (fun e=>absurd e E) fun h=>h.elim (fun e=>absurd e.2 o) fun h=>h.elim (fun e=>Z e (dd rfl)) fun h=>h.elim (fun e=>Z e.2 (dd rfl)) fun e=>absurd e j;refine CW (Es u (Cp (Ao (d:=d+3) (e₂:=1) (AG (Aa rfl rfl)) (Fq (d:=d+3) g (YT z) fun nl B=>Aa (v:=ni mm.2) rfl rfl _ ⟨.str (Ia mm),.list (U.ak ..) (ge _) (r63 (ab r (dd rfl))) ?_,l _ (aD.set B)⟩) (ai _))));rw[eS,on];have:=qY r;rcases this with e|e|e|e<;>rw[e]<;>rfl
theorem Og{p t:Addr}(a:H p=some (.tup [.str x,.int n]))(b:H t=some (.tup [.str x,.int n])):Bv cm H .NotEq (.ref p) (.ref t)=some false:=by
 simp[GK,Dv,DI,MI,Jv,a,b,CD,Gx]
theorem OY{p C:Addr}{f:At->V}(a:H p=some (.inst C f))(b:cm C=true):Bv cm H .NotEq (.ref p) (.ref p)=some false:=by
 refine Z Dv (Z DI (Z a ?_));dsimp only;refine Z b ?_;simp
structure cT(H:U)(ul:Addr)(us:List Use)(ps:List Addr):Prop where
 e:H ul=some (.list (ps.map .ref))
 all:bw (jk H) ps us
theorem cT.ext{a:Addr}{us:List Use}(h:cT H a us ps)(e:aD H I):cT I a us ps:=⟨e _ _ h.e,h.all.mono fun y y y z=>z.tk e.tk⟩
def I8(H:U)(L:Loc)(J:Nat->iy)(sl:Addr)(n:Nat):Prop:=H sl=some (.list ((ej n).map fun i=>.ref (L.sc (J i).f)))
theorem K4{sl:Addr}{j:Nat}(a:j<n):((ej n).map fun i=>V.ref (L.sc (J i).f))[j]?=some (.ref (L.sc (J j).f)):=by
 refine Z (b9) (Z (to a) ?_);rfl
inductive ZC(H:U)(sl ul:Addr)(j:Nat)(H1:U)(m:List V):Prop where
 |mk (a2 a3 a4 a5 a6 a7:V):m=[.ref sl,.ref ul,a2,a3,a4,a5,a6,a7,.aa,.aa]->aD H H1->ZC H sl ul j H1 m
theorem T4(c:Code X G k)(g:Bj X G la ns)(h:L2 k H0 H L D J Y pa b){sl rL:Addr}(hs:I8 H L J sl Y.length){z:Use}(C:z∈Aw Y Y 0){v a5 a6 a7:V}(AH:f9 H v z.o){K:bu->U->List V->Prop}(q:∀I a5 a6 a7,aD H I->K .next I [.ref sl,.ref rL,ni z.l,.str z.y,v,a5,a6,a7,.aa,.aa]):
  Ds X (d+23) G H [.ref sl,.ref rL,ni z.l,.str z.y,v,a5,a6,a7,.aa,.aa] K:=by
 have xs:=(h.lk C).l;have h5:=h.t.ok.n5;have aj:∀{H':U} {m:List V} {A:WE} {j:Nat},m.getD 0 .aa=.ref sl->aD H H'->j<Y.length->Pv A H' m (ni j)->Pv (Ax (O 0) A) H' m (.ref (L.sc (J j).f)):=fun e B hj pj=>Gf (Aa e rfl) (B _ _ hs) pj (K4 (sl:=sl) hj) (Xx h5 hj);have up:=h.o6 _ (h.use.mpr ⟨z,C,rfl⟩);cases ad:z.o with
 |none=>
  refine Ad (h.find (d:=d+19) c (x:=z.y) (h.f xs) (Jw (Z (ap cu) ((h.lk C).none ad)))) fun f hf hq=>?_;rw[ad]at AH;cases AH with
  |none=>
   refine AL (Bz (d:=d+19) (e₂:=4) (aj rfl (aD.refl H) xs (Aa rfl rfl)) hf (AG (Aa (v:=.str z.y) rfl rfl)) (hq H (aD.refl H) _ fun H' y B W=>Ad W fun ws u Ab=>?_) (ai _));subst u;refine Dt (aB (Aa (v:=.none) rfl rfl) Af rfl) (We (GH (Aa (v:=.ref ws) rfl rfl) (bV (AD Af (Aa (v:=.str z.y) rfl rfl)) (dd rfl:2<=aT) fun t ht=>⟨false,Qp (Ah ht Ab) (U.ak ..),gF (q _ _ _ _ (B.trans (aD.set ht)))⟩)))
 |some E=>
  rw[ad]at AH;refine Fp (Rn h.an h.o6 (h.use.mpr ⟨z,C,rfl⟩) (Z (((h.lk C).some E ad).2.2.2) rfl)) fun o kd n zr=>Fp zr fun s j ml F=>?_;have p:=h.sorts C ad;have eo:(J E.1).f=o:=(h.own p.1 p.2).jf h.an.st.pure F.own;refine Ad h.an.iM fun N hN hC=>?_;have P:=F.at';rw[show(cF J Y (.prog pa b) z.l,z.y).1=_ from cu]at P;refine Ad (h.find (d:=d+19) c (x:=z.y) (h.f xs) P) fun f hf hq=>?_;have h6:E.2≠6:=by have:=((h.lk C).some E ad).2.1;exact vL this
  have i:=F.pR;rw[show gY (cF J Y (.prog pa b) z.l,z.y).1=(J z.l).f from N9]at i;have aQ:=F.aQ;rw[<-eo]at i;cases AH with
  |some a _ pr=>
   refine AL (Bz (d:=d+19) (e₂:=4) (aj rfl (aD.refl H) xs (Aa rfl rfl)) hf (AG (Aa (v:=.str z.y) rfl rfl)) (hq H (aD.refl H) _ fun H' y B W=>Ad (id W) fun ws u Ab=>?_) (ai _));subst u;have h1:=h.ext B;refine iB (aB (Aa (v:=.ref a) rfl rfl) Af rfl) (Lg (Ao (d:=d) (e₂:=23) (AD (aj rfl B xs (Aa rfl rfl)) (Aa (v:=.ref ws) rfl rfl)) (Uc (d:=d) c g h1.an.st h1.an.rooted (fun v vs m=>h.len m) (hC.keep B.tps) hN (i H' _ W) fun H2 r Q e2 hr hy2=>⟨r,_,rfl,hr,rfl,?_⟩) (ai _)));have w:=B.trans e2;have h2:=h.ext w;refine Ad (h2.an.st.fn _ _ (h.f p.1) rfl) fun ff ef l=>?_;have R:∀{H3:U},aD H H3->Pv (Ax (O 0) (Ax (O 4) (Ae (.int 0)))) H3 [.ref sl,.ref rL,ni z.l,.str z.y,.ref a,.ref ws,.ref (L.sc (J E.1).f),.ref Q,.aa,.aa] (.ref (L.sc (J E.1).f)):=fun S=>aj rfl S p.1 (GP (n:=0) (Aa (v:=.ref a) rfl rfl) (S _ _ pr) rfl rfl);refine We (Hx (aB (Aa (v:=.ref (L.sc (J E.1).f)) rfl rfl) (R w) (OY ef c.jb)) (eE (GH (Aa (v:=.ref Q) rfl rfl) (Ao (d:=d+18) (e₂:=5) (AD (R w) (Aa (v:=.ref a) rfl rfl)) (P0 (d:=d+18) c g h2 p.1 p.2 h6 aQ (w _ _ pr) fun H3 y3 S hy3=>Ad hy3 fun yp3 u T=>?_) (ai _)))));subst u;exact⟨false,Og (S _ _ hy2) T,gF (HY (gF (q _ _ _ _ (w.trans S))))⟩
theorem OA(c:Code X G k)(g:Bj X G la ns)(h:L2 k H0 H L D J Y pa b){sl l:Addr}(u:I8 H L J sl Y.length)(i:cT H l (Aw Y Y 0) ps){Q:V->U->Prop}(q:∀I,aD H I->Q (.bool true) I):aG X (d+24) H (G "_law_uses_right") [.ref sl,.ref l] Q:=by
 refine g.mH.call rfl (J9 (Aa rfl rfl) i.e (AW (ZC H sl l) ?_ ?_ ⟨_,_,_,_,_,_,rfl,aD.refl H⟩))
 ·rintro j x o m f ⟨w,y,A,r,s,t,rfl,a⟩;obtain⟨p,B,n⟩:∃p,ps[j]?=some p/\x=.ref p:=by
   rw[b9]at f;cases e:ps[j]? with
   |none=>rw[e]at f;cases f
   |some p=>rw[e]at f;exact⟨p,rfl,(ag f).symm⟩
  obtain⟨z,C,v,E,F⟩:=i.all.get B;exact Z n ⟨a _ _ i.e,_,CB (a _ _ E) rfl,fun K H' W=>T4 c g (h.ext a) (a _ _ u) (ay C) (F.tk a.tk) fun I r s t ad=>H' _ _ ⟨_,_,_,_,_,_,rfl,a.trans ad⟩⟩
 ·rintro o m ⟨w,y,A,r,s,t,rfl,a⟩;exact⟨a _ _ i.e,jQ (A9 (Af) (q o a))⟩
end
section
variable{k:fW}{H0 H I:U}{L:Loc}{D:cD}{J:Nat->iy}{Y:List Row}{pa:Addr}{b:List T}{l d:Nat}{X:Cx}{G:String->V}{la:Addr}{ns:List Int}{T':WT}{W:WS}{m:List V}
variable{v:V}
theorem f9.u{o:Option (Nat×Nat)}(h:f9 H v o):jO v=false:=by
 cases h with
 |none=>rfl|some a x p=>rfl
theorem Lr{pz:Use->Bool}{ok:U->Prop}{tl:List V}{Q:List V->U->Prop}(b:ok H):∀(us:List Use) (ps:List Addr) (j:Nat) (acc:List V) (g h i:V),bw (jk H) ps us->(∀z∈us,∀v,f9 H v z.o->cP T' H (.aa::ni z.l::.str z.y::v::tl) (pz z)) ->
  (∀vs,bw (f9 H) vs ((us.filter pz).map (·.o))->Q (acc++vs) H)->cN (Bc [1,2,3]) ok T' (O 3) Q j acc (ps.map .ref) H (.aa::g::h::i::tl):=by
 intro s;induction s with
 |nil=>
  intro ps j acc g h i k f q;rw[k.mF];have:=q [] trivial;rw[aS]at this;exact⟨b,this⟩
 |cons z us r=>
  intro ps j acc g h i k f q;obtain⟨p,c,rfl,⟨v,t,m⟩,d⟩:=k.j8;refine⟨b,.aa::ni z.l::.str z.y::v::tl,CB t rfl,f z (.head _) v m _ ?_⟩;cases e:pz z with
  |true=>
   have w:Pv (O 3) H (.aa::ni z.l::.str z.y::v::tl) v:=Aa rfl m.u;refine lL (w _ (r c _ _ _ _ _ d (fun y n=>f y (.tail _ n)) fun vs a=>?_));rw[ci];refine q (v::vs) ?_;rw[iE e];exact⟨m,a⟩
  |false=>
   refine gF (r c _ _ _ _ _ d (fun y n=>f y (.tail _ n)) fun vs a=>q vs ?_);rw[iF (by rw[e];exact ax)];exact a
theorem Tv:∀{os:List (Option (Nat×Nat))} {vs:List V},bw (f9 H) vs os->(∀o∈os,o≠none)->∃b:List ((Nat×Nat)×Addr),vs=(b.map fun x=>.ref x.2)/\(∀x∈b,bW H x.2 x.1)/\b.map (fun x=>some x.1)=os:=by
 intro d;induction d with
 |nil=>
  intro vs h _;exact⟨[],h.mF,fun x f=>absurd f am,rfl⟩
 |cons o os g=>
  intro vs h n;refine Ay h.j8 fun v i c j k=>?_;subst c;refine Az (g k fun o l=>n o (.tail _ l)) fun b m q r=>?_;cases j with
  |none=>exact absurd rfl (n none (.head _))|some a x p=>
   exact⟨(x,a)::b,by refine Z m ?_;rfl,fun y s=>(bg.mp s).elim (fun e=>by refine Z e ?_;exact p) (q y),by exact Z dr (Z r rfl)⟩
theorem wG{p:Use->Bool}(a:List Row):∀(l:Nat),(∀w∈a,w.us.length<=3)->(∀j,p ⟨j,bx "v" j,some (j,1)⟩=false)->((Aw Y a l).filter p).length<=3*a.length:=fq (fun l h b=>bq _) (fun w a c l h b=>by
 refine Z (lx ..) (Z ba (ab (cc ?_ (c (l+1) (fun w q=>h w (.tail _ q)) b)) (ct (ds ..))));unfold B7;exact Z (iF (fun q=>ax ((b l).symm.trans q))) (ab (i7 ..) (Z (ac ..) (h w (.head _))))) a
theorem Y4{o:Option (String×Nat)}(h:cC H v o):jO v=false/\mO v=false:=by
 cases o with
 |none=>refine Z (h) ?_;exact⟨rfl,rfl⟩
 |some p=>refine Ad h fun a e z=>?_;exact Z e ⟨rfl,rfl⟩
theorem Yn(c:Code X G k)(g:Bj X G la ns)(h:L2 k H0 H L D J Y pa b)(e:l<Y.length){A:WE}(a:Pv A H m (.ref (L.sc (J l).f))):∃v,cC H v (D.aQ (kb J (l,3)))/\Pv (Hb X (d+2) (G "Scope") (G "Scope_self_place") A) H m v:=by
 refine Ad (h.an.st.fn _ _ (h.f e) rfl) fun f j p=>?_;have es:f .aH=.ref (L.bd (kb J (l,3))):=by refine Z p.self (Z (h.t.self e) ?_);rfl
 refine Ad (h.an.st.bd _ _ (h.f e) (kb J (l,3)) (EJ (h.t.self e))) fun r s n=>?_;have o:∀{m:List V} {A:WE},Pv A H m (.ref (L.sc (J l).f))->Pv (Aj X .aH A) H m (.ref (L.bd (kb J (l,3)))):=fun a=>Am a (c.fS j es rfl rfl);have i:=Y4 n.aQ;exact⟨r .place,n.aQ,fun Q q=>a _ ⟨d+1,_,k.S,f,rfl,c.gS,rfl,j,(g.oJ.call rfl (Bh (Es (aB (o (Aa rfl rfl)) Af rfl) (Am (o (Aa rfl rfl)) (c.fB s rfl i.1 i.2) _ ⟨i.2,q⟩))))⟩⟩
theorem SA(c:Code X G k)(g:Bj X G la ns)(h:L2 k H0 H L D J Y pa b)(i:l<Y.length){A:WE}(a:Pv A H m (.ref (L.sc (J l).f))):∃v,(aW (aX Y l)=true->cC H v (D.aQ (kb J (l,4))))/\(aW (aX Y l)=false->v=.none)/\Pv (Hb X (d+2) (G "Scope") (G "Scope_arguments_place") A) H m v:=by
 refine Ad (h.an.st.fn _ _ (h.f i) rfl) fun f j s=>?_;have w:f .aR=.bool (aW (aX Y l)):=by exact Z s.args (Z (h.t.args i) rfl)
 have n:∀{m:List V},m.getD 0 .aa=.ref (L.sc (J l).f)->cP (Av (Aj X .aR (O 0))) H m (aW (aX Y l)):=fun e=>AJ (Am (Aa e rfl) (c.fS j w rfl rfl));cases o:aW (aX Y l)with
 |false=>
  rw[o]at n;exact⟨.none,bU,fun t=>rfl,fun Q q=>a _ ⟨d+1,_,k.S,f,rfl,c.gS,rfl,j,g.oF.call rfl (Bh (Es (n rfl) ⟨rfl,q⟩))⟩⟩
 |true=>
  rw[o]at n;have x:"arguments"∈(fT J Y l).names:=(h.t.names i).mpr (.inr (.inr (.inl ⟨o,rfl⟩)));refine Ad (h.an.st.bd _ _ (h.f i) (kb J (l,4)) (K3 rfl x)) fun z B u=>AA (h.an.st.dc _ _ (h.f i) rfl) fun F p=>?_;have r:=Y4 u.aQ;refine⟨z .place,fun t=>u.aQ,fun e=>bU e.symm,fun Q q=>a _ ⟨d+1,_,k.S,f,rfl,c.gS,rfl,j,(g.oF.call rfl (Bh (Ev (n rfl) ?_)))⟩⟩;have C:((fT J Y l).names.map fun y=>(y,V.ref (L.bd ⟨.own,(fT J Y l).aq,y⟩))).lookup "arguments"=some (.ref (L.bd (kb J (l,4)))):=by
   refine Z (R5 h.t i) (Z o ?_);have E:=BG "p" (dd rfl) l (h.t.lt i);show og "arguments" [(bx "p" l,_),("q",_),("arguments",_),(bx "v" l,_)]=_;refine Z e9 (Z (beq_eq_false_iff_ne.mpr (kl E.2.1)) ?_);rfl
  exact Am (Fu (Am (Aa rfl rfl) (c.fS j s.own rfl rfl)) p C) (c.fB B rfl r.1 r.2) _ ⟨r.2,q⟩
structure lJ(H:U)(r:Addr)(us:List Use)(p:Use->Bool)(qs:List ((Nat×Nat)×Addr)):Prop where
 e:H r=some (.list (qs.map fun x=>.ref x.2))
 pr:∀x∈qs,bW H x.2 x.1
 os:qs.map (fun x=>some x.1)=(us.filter p).map (·.o)
noncomputable def Rc(l:Nat)(z:Use):Bool:=decide (l<=z.l)&&((z.o.map fun a=>decide (a.1<l)&&true).getD false)
noncomputable def QK(l:Nat)(z:Use):Bool:=decide (l<z.l)&&((z.o.map fun a=>decide (a.1=l)&&true).getD false)
variable{B:WT}{us:List Use}{p:Use->Bool}{r:Addr}{qs kps:List ((Nat×Nat)×Addr)}
theorem lJ.ext(h:lJ H r us p qs)(e:aD H I):lJ I r us p qs:=⟨e _ _ h.e,fun x a=>e _ _ (h.pr x a),h.os⟩
theorem Z8(cm:Addr->Bool)(x y:Nat):Bv cm H .GtE (ni x) (ni y)=some (decide (y<=x)):=by
 show some (decide ((y:Int)<=x))=_;rw[decide_eq_decide.mpr Int.ofNat_le]
theorem Sj{o:Option (Nat×Nat)}{f:Nat×Nat->Bool}(c:f9 H v o)(b:Pv (O 3) H m v)(d:∀mm,Pv (Ax (O 3) (Ae (.int 0))) H m (ni mm.1)->cP B H m (f mm)):cP (AP (Ap X .IsNot (O 3) (Ae .none)) B) H m ((o.map f).getD false):=by
 cases c with
 |none=>exact A0 (aB b Af rfl)|some a x e=>exact bH (aB b Af rfl) (d x (GP b e rfl rfl))
variable{mm:Nat×Nat}
theorem Lh(h:lJ H r us p qs):mm∈qs.map (·.1)↔∃z∈us,p z=true/\z.o=some mm:=by
 have e:mm∈qs.map (·.1)↔some mm∈qs.map (fun x=>some x.1):=by
  exact Z (propext bn) (Z (propext bn) ⟨fun a=>Ad a fun x c e=>⟨x,c,congrArg some e⟩,fun a=>Ad a fun x c e=>⟨x,c,ag e⟩⟩)
 exact Z (propext e) (Z h.os (Z (propext bn) ⟨fun a=>Ad a fun z b e=>⟨z,(fy.mp b).1,(fy.mp b).2,e⟩,fun a=>Az a fun z b d e=>⟨z,fy.mpr ⟨b,d⟩,e⟩⟩))
theorem Ma(H':jG qs qs.length kps):mm∈kps.map (·.1)↔mm∈qs.map (·.1):=by
 constructor
 ·intro h;exact Ad (bn.mp h) fun x a e=>bn.mpr ⟨x,H'.sub x a,e⟩
 ·intro h;exact Ad (bn.mp h) fun x a e=>Z (ap e) (H'.has x (Z dp a))
variable{z:Use}
theorem Mx(h:Rc l z=true):∃mm,z.o=some mm/\mm.1<l/\l<=z.l:=by
 refine aV ((be _ _).mp h) fun b a=>?_;cases e:z.o with
 |none=>rw[e]at a;exact bU a
 |some mm=>rw[e]at a;exact⟨mm,rfl,of_decide_eq_true ((be _ _).mp a).1,of_decide_eq_true b⟩
theorem Lj(h:QK l z=true):∃mm,z.o=some mm/\mm.1=l/\l<z.l:=by
 refine aV ((be _ _).mp h) fun b a=>?_;cases e:z.o with
 |none=>rw[e]at a;exact bU a
 |some mm=>rw[e]at a;exact⟨mm,rfl,of_decide_eq_true ((be _ _).mp a).1,of_decide_eq_true b⟩
theorem vC(e:z.o=some mm)(a:mm.1<l)(b:l<=z.l):Rc l z=true:=by
 unfold Rc;refine Z e (Z (decide_eq_true b) ?_);show(true&&(decide _&&true))=true;refine Z (decide_eq_true a) ?_;rfl
theorem Aa3(e:z.o=some mm)(a:mm.1=l)(b:l<z.l):QK l z=true:=by
 unfold QK;refine Z e (Z (decide_eq_true b) ?_);show(true&&(decide _&&true))=true;refine Z (decide_eq_true a) ?_;rfl
theorem Abr{P:Use->Bool}(h:∀z,P z=true->z.o≠none):∀o∈(us.filter P).map (·.o),o≠none:=fun o a=>by
 exact Ad (bn.mp a) fun z b e=>Z (ap e) (h z (fy.mp b).2)
theorem Se{P:Use->Bool}{d:WT}{f:Addr}{ps:List Addr}{a:List (Option Nat)}{tl:List V}{R:V->U->Prop}(h:∀z,P z=true->z.o≠none)(i:Pv (O 3) H m (.ref f))(b:cT H f us ps)(j:us.length<=1000)(k:a.map (Nm m)=.aa::.aa::.aa::.aa::tl)
  (n:∀z∈us,∀v,f9 H v z.o->cP d H (.aa::ni z.l::.str z.y::v::tl) (P z)) (q:∀r qs,H r=none->lJ (H.set r (.list (qs.map fun x=>.ref x.2))) r us P qs->R (.ref r) (H.set r (.list (qs.map fun x=>.ref x.2)))):Bm (Au (O 3)) (Bc [1,2,3]) d (O 3) a H m R:=by
 refine Fg i b.e (sz (Z (ac ..) (Z b.all.length (ab j (dd rfl))))) ?_;exact Z k (Lr b.e us ps 0 [] _ _ _ b.all n fun w c r g=>Az (Tv c (Abr h)) fun qs p s t=>Z (ki ..) (Z p (q r qs g ⟨U.ak ..,fun x u=>Ah g (s x u),t⟩)))
theorem wj(a:f9 H v z.o):cP (AP (Ap X .GtE (O 1) (O 4)) (AP (Ap X .IsNot (O 3) (Ae .none)) (AP (Ap X .Lt (Ax (O 3) (Ae (.int 0))) (O 4)) AI))) H [.aa,ni z.l,.str z.y,v,ni l] (Rc l z):=
 fQ (aB (Aa rfl rfl) (Aa rfl rfl) (Z8 X.cm _ _)) (Sj a (Aa rfl a.u) fun c b=>fQ (aB b (Aa rfl rfl) (QZ X.cm _ _)) JF)
theorem yF(a:f9 H v z.o):cP (AP (Ap X .Gt (O 1) (O 4)) (AP (Ap X .IsNot (O 3) (Ae .none)) (AP (Ap X .Eq (Ax (O 3) (Ae (.int 0))) (O 4)) AI))) H [.aa,ni z.l,.str z.y,v,ni l] (QK l z):=
 fQ (aB (Aa rfl rfl) (Aa rfl rfl) (Ru X.cm _ _)) (Sj a (Aa rfl a.u) fun c b=>fQ (aB b (Aa rfl rfl) (Ff X.cm _ _)) JF)
variable{ul rl:Addr}{Q:bu->U->List V->Prop}{ps:List Addr}
theorem LR(h:L2 k H0 H L D J Y pa b)(d:lJ I r (Aw Y Y 0) p qs):∀x∈qs,x.1∈dX:=fun x e=>by
 refine Az ((Lh d).mp (bn.mpr ⟨x,e,rfl⟩)) fun z a y c=>?_;have s:=(h.sorts a c).1;have f:=((h.lk a).some _ c).2.1;have g:=h.t.ok.n5;exact L3 (bv s g) (uW f)
theorem Lm(h:L2 k H0 H L D J Y pa b)(a:lJ I r (Aw Y Y 0) p qs)(c:∀j,p ⟨j,bx "v" j,some (j,1)⟩=false):qs.length<=15:=by
 have e:=congrArg oi a.os;rw[ac,ac]at e;exact ab (ct e) (ab (wG Y 0 h.t.ok.u3 c) (dE 3 h.t.ok.n5))
theorem AbQ(j:Nat):Rc l ⟨j,bx "v" j,some (j,1)⟩=false:=by
 cases e:Rc l ⟨j,bx "v" j,some (j,1)⟩with
 |false=>rfl|true=>
  refine Az (Mx e) fun d b a c=>?_;rw[<-ag b]at a;exact absurd a (Nat.not_lt_of_le c)
theorem Zw(j:Nat):QK l ⟨j,bx "v" j,some (j,1)⟩=false:=by
 cases e:QK l ⟨j,bx "v" j,some (j,1)⟩with
 |false=>rfl|true=>
  refine Az (Lj e) fun d b a c=>?_;rw[<-ag b]at a;exact absurd a (mT c)
theorem L2.aJ(h:L2 k H0 H L D J Y pa b)(c:Code X G k)(a:l<Y.length):mG X H (L.sc (J l).f) .aJ (.ref (L.ls (J l).f .aJ))/\H (L.ls (J l).f .aJ)=some (.list (D.lst (J l).f .aJ))/\(D.lst (J l).f .aJ).length=((Ch D.aQ (aU [T.prog pa b] b)).fG (J l).f).length/\(D.lst (J l).f .aJ).length<=500000:=Ad (h.an.st.fn _ _ (h.f a) rfl) fun f e g=>Ad h.an.iM fun N i d=>⟨c.fS e (g.lst .aJ (dd rfl)) rfl rfl,h.an.st.ls _ _ (h.f a) rfl .aJ (dd rfl),(d.t _ _ (h.f a) rfl).length,by refine Z ((d.t _ _ (h.f a) rfl).length) ?_;exact ab (d.ln _ _ (h.f a) rfl).2 i⟩
theorem xW(c:Code X G k)(g:Bj X G la ns)(h:L2 k H0 H L D J Y pa b)(C:l<Y.length)(ad:cT H ul (Aw Y Y 0) ps)(q:∀I K,aD H I->BV X d G I [.ref (L.sc (J l).f),.ref rl,ni l,.ref ul,K,.aa,.aa,.aa,.aa,.aa,.aa,.aa,.aa,.aa,.aa,.aa,.aa] Q):
  Cv X d G H [.ref (L.sc (J l).f),.ref rl,ni l,.ref ul,.aa,.aa,.aa,.aa,.aa,.aa,.aa,.aa,.aa,.aa,.aa,.aa,.aa] Q:=by
 have p:=Ee h.t;refine AL (Se (P:=Rc l) (tl:=[ni l]) (fun z s=>by refine Ad (Mx s) fun xs e t=>?_;refine Z e ?_;exact fun e=>gU e.symm) (Aa (v:=.ref ul) rfl rfl) ad (ab p (dd rfl)) rfl (fun z t v N=>wj N) fun r qs Ab u=>?_);have E:=aD.set (o:=.list (qs.map fun x=>.ref x.2)) Ab;have j:=h.ext E;refine Bt (j.aJ c C) fun R S T AH=>?_;have w:=Lm h u AbQ;have aj:=C9 (d:=d) c (Am (Aa (m:=[.ref (L.sc (J l).f),.ref rl,ni l,.ref ul,.ref r,.aa,.aa,.aa,.aa,.aa,.aa,.aa,.aa,.aa,.aa,.aa,.aa]) (i:=0) (v:=.ref (L.sc (J l).f)) rfl rfl) R) S;refine fO (GH (aj (sz (ab AH (dd rfl)))) (CW (CW (Aa (v:=.ref r) rfl rfl _ (Z g.mV (JH u.e (uw w) (fun x F=>⟨LR h u x F,u.pr x F⟩) fun rL kps B H'=>?_))))));have W:=H'.len;refine Z c.lq (ME (U.ak ..) (Z (ac ..) (tE w W)) ?_);have n:=h.rG C H'.nd fun xs=>by
  refine Z (propext (Ma H')) (Z (propext (Lh u)) ?_);exact⟨fun a=>Az a fun z s j y=>by
   refine Az (Mx j) fun m' e A ws=>?_;rw[<-ag (y.symm.trans e)]at A;exact⟨z,s,y,A,ws⟩,fun a=>Ir a fun z s j y A=>⟨z,s,vC j y A,j⟩⟩
 refine⟨false,(Z T (Z n (Z (ac ..) (Z (ac ..) (Z Dv ?_))))),gF (q _ _ (E.trans (aD.set B)))⟩;show(some (decide _)).map _=_;refine Z (decide_eq_true rfl) ?_;rfl
theorem Sd{A B:WE}{op:mE}{R:V->U->Prop}(h:A H m fun a d=>B d m fun b c=>Rg X op a b c fun k=>R (.bool k) c):Cu X op A B H m R:=h
variable{cm:Addr->Bool}{x:Nat×Nat}
theorem V3{n:Nat}{y t:Addr}{b:Nat×Nat}(h:bW H y x)(c:bW H t b):dK cm H (n+2) (.ref y) (.ref t)=some (decide (x=b)):=by
 refine Z DI (Z (h) (Z (c) ?_));show DU (dK cm H (n+1)) [ni x.1,ni x.2] [ni b.1,ni b.2]=_;refine Z CD (Z CD (Z Gx (Z Jv (Z Jv ?_))));show some (decide _&&(decide _&&true))=_;obtain⟨a,s⟩:=x;obtain⟨d,e⟩:=b;refine Z (se ..) ?_;rewrite[decide_eq_decide.mpr (q4),decide_eq_decide.mpr (q4)];refine Z (ap (Bool.decide_and ..)) ?_;exact congrArg some (decide_eq_decide.mpr (Prod.mk.injEq ..▸Iff.rfl))
theorem YG{t:Addr}(f:bW H t x){c:List (Option (Nat×Nat))}:∀{vs:List V},bw (f9 H) vs c->B0 (fun y=>dK cm H 7 y (.ref t)) vs=some (c.any fun o=>decide (o=some x)):=by
 induction c with
 |nil=>intro vs h;exact Z h.mF rfl
 |cons o c g=>
  intro vs h;refine Ay h.j8 fun v d i j k=>?_;subst i;have e:dK cm H 7 v (.ref t)=some (decide (o=some x)):=by
   cases j with
   |none=>refine Z VX (Z (f) ?_);exact congrArg some (decide_eq_false nofun).symm
   |some a m l=>refine Z (V3 l f) ?_;exact congrArg some (decide_eq_decide.mpr ⟨fun z=>congrArg some z,fun z=>ag z⟩)
  show(match dK cm H 7 v (.ref t),B0 (fun y=>dK cm H 7 y (.ref t)) d with|some a,some b=>some (a||b)|_,_=>none)=_;exact Z e (Z (g k) rfl)
theorem Ki{t:Addr}{a:List (Option (Nat×Nat))}{vs:List V}(b:bW H t x)(c:H r=some (.list vs))(h:bw (f9 H) vs a):Bv cm H .In (.ref t) (.ref r)=some (a.any fun o=>decide (o=some x)):=by
 refine Z N4 ?_;show(match H r with|some (.list d)=>B0 (fun y=>dK cm H 7 y (.ref t)) d|some (.dict es _)=>_|_=>none)=_;exact Z c (YG b h)
theorem Qk{w:Row}(a:List Row):∀(l j:Nat),a[j]?=some w->z∈B7 Y (l+j) w->z∈Aw Y a l:=fq (fun l j h d=>gU h) (fun u a c l j=>l6 j (fun h b=>cq _ (Z (ag h) b)) fun j h b=>cS _ (c (l+1) j h (Z (iv l j) b))) a
theorem VK(h:L2 k H0 H L D J Y pa b)(hl:l<Y.length):(((Aw Y Y 0).filter fun z=>decide (z.l=l)).map (·.o)).any (fun o=>decide (o=some (l,4)))=aW (aX Y l):=by
 refine ub.mpr (Z (propext fe) ?_);constructor
 ·rintro⟨o,ho,e⟩;refine Ad (bn.mp ho) fun z hz e1=>aV (fy.mp hz) fun h1 h2=>?_;have e2:=e1.trans (of_decide_eq_true e);have q:=(((h.lk h1).four _ e2).1 rfl).2;rw[of_decide_eq_true h2]at q;exact q
 ·intro ha;refine Ad (List.any_eq_true.mp ha) fun x hx e=>?_;have e4:=of_decide_eq_true e;have ru:=(h.t.row hl).u x hx;have em:D7 Y l x=some (l,4):=by
   rcases NZ l ru.2 ru.1 with⟨_,q⟩|⟨q,_⟩|⟨_,q,_⟩
   ·exact q.elim (fun z=>absurd (e4.symm.trans z) (dd rfl)) fun z=>absurd (e4.symm.trans z.1) (dd rfl)
   ·exact q
   ·exact absurd (Z (ap e4) q:4<=3) (dd rfl)
  refine⟨some (l,4),bn.mpr ⟨⟨l,Cd x.1 x.2,D7 Y l x⟩,fy.mpr ⟨Qk Y 0 l (El hl) (Z (df ..) (.tail _ (bn.mpr ⟨x,hx,rfl⟩))),decide_eq_true rfl⟩,em⟩,decide_eq_true rfl⟩
theorem Xb:(((Aw Y Y 0).filter fun z=>true).map (·.o)).any (fun o=>decide (o=some (l,3)))=Mine.Lake.named Y l:=by
 refine Z (tx.mpr fun y y=>rfl) (Z List.any_map ?_);rfl
theorem xT(c:Code X G k)(g:Bj X G la ns)(h:L2 k H0 H L D J Y pa b)(hl:l<Y.length)(hu:cT H ul (Aw Y Y 0) ps){a4:V}(q:∀I,aD H I->B1 X d G I [.ref (L.sc (J l).f),.ref rl,ni l,.ref ul,a4,.bool (aW (aX Y l)),.bool (Mine.Lake.named Y l),.aa,.aa,.aa,.aa,.aa,.aa,.aa,.aa,.aa,.aa] Q):
  BV X d G H [.ref (L.sc (J l).f),.ref rl,ni l,.ref ul,a4,.aa,.aa,.aa,.aa,.aa,.aa,.aa,.aa,.aa,.aa,.aa,.aa] Q:=by
 have hz20:=Ee h.t;have szl:(ps.map V.ref).length<=aT:=sz (Z (ac ..) (Z hu.all.length (ab hz20 (dd rfl))));refine AL (Sd (bV (AD (Aa (v:=ni l) rfl rfl) (Af (v:=ni 4))) (dd rfl:2<=aT) fun t ht=>?_));have u1:=hu.ext (aD.set (o:=.tup [ni l,ni 4]) ht);refine Fg (Aa (v:=.ref ul) rfl rfl) u1.e szl (Lr (pz:=fun z=>decide (z.l=l)) (tl:=[ni l]) u1.e (Aw Y Y 0) ps 0 [] .aa .aa .aa u1.all (fun z y v mv=>aB (Aa rfl rfl) (Aa rfl rfl) (Ff X.cm _ _)) fun vs hvs r hr=>⟨_,Ki (x:=(l,4)) (Ah hr (U.ak ..)) (U.ak ..) (hvs.mono fun y y y z=>z.tk (aD.set hr).tk),(Z (VK h hl) ?_)⟩);have e1:aD H ((H.set t (.tup [ni l,ni 4])).set r (.list ([]++vs))):=(aD.set ht).trans (aD.set hr);have u2:=hu.ext e1;refine AL (Sd (bV (AD (Aa (v:=ni l) rfl rfl) (Af (v:=ni 3))) (dd rfl:2<=aT) fun t2 ht2=>?_));have u3:=u2.ext (aD.set (o:=.tup [ni l,ni 3]) ht2);exact Fg (Aa (v:=.ref ul) rfl rfl) u3.e szl (Lr (pz:=fun z=>true) (tl:=[]) u3.e (Aw Y Y 0) ps 0 [] .aa .aa .aa u3.all (fun z y v mv=>JF) fun vs2 hvs2 r2 hr2=>⟨_,Ki (x:=(l,3)) (Ah hr2 (U.ak ..)) (U.ak ..) (hvs2.mono fun y y y z=>z.tk (aD.set hr2).tk),(Z Xb (q _ (e1.trans ((aD.set ht2).trans (aD.set hr2)))))⟩)
theorem N8{c j:Type}{f:c->j}{M ys:List j}(h:ys.Perm M):∀a:List c,M=a.map f->∃b:List c,b.Perm a/\ys=b.map f:=by
 induction h with
 |nil=>exact fun a e=>⟨a,.refl _,e⟩
 |cons x _ m=>
  intro a e;cases a with
  |nil=>exact absurd e (dP _ _)|cons k a=>
   exact Ad (m a (bS e).2) fun b n o=>⟨k::b,.cons k n,by refine Z o (Z ((bS e).1) ?_);rfl⟩
 |swap x y l=>
  intro a e;cases a with
  |nil=>exact absurd e (dP _ _)|cons k a=>
   cases a with
   |nil=>exact absurd (bS e).2 (dP _ _)|cons d a=>
    exact⟨d::k::a,.swap _ _ _,by refine Z ((bS e).1) (Z ((bS (bS e).2).1) (Z ((bS (bS e).2).2) ?_));rfl⟩
 |trans _ _ g i=>
  intro a e;exact Ad (i a e) fun p q r=>Ad (g p r) fun d s t=>⟨d,s.trans q,t⟩
noncomputable def Lc(l:Nat)(a:Bool)(b c:Addr):List ((Nat×Nat)×Addr):=if a then[((l,0),b),((l,6),c)]else[]
theorem xK(c:Code X G k)(g:Bj X G la ns)(h:L2 k H0 H L D J Y pa b)(C:l<Y.length){W:V}{w y p:Addr}{j:Bool}{ri:Addr}{Hi:U}(E:j=(aW (aX Y l)&&!(aX Y l).st))(F:lJ Hi ri (Aw Y Y 0) (QK l) qs)(ad:∀x∈qs,bW H x.2 x.1)(H':jG qs qs.length kps)(e7:H w=some (.set (kps.map fun x=>.ref x.2)))(e8:H y=some (.list ((Lc l j p r).map fun x=>.ref x.2)))(hp:∀x∈Lc l j p r,bW H x.2 x.1)
  (q:∀I n,aD H I->D.nc (J l).f=n->D.nl (J l).f+n=(sorts Y l).length->Bo X d G I [.ref (L.sc (J l).f),.ref rl,ni l,.ref ul,W,.bool (aW (aX Y l)),.bool (Mine.Lake.named Y l),.ref w,.ref y,ni n,.aa,.aa,.aa,.aa,.aa,.aa,.aa] Q) :
  BZ X d G H [.ref (L.sc (J l).f),.ref rl,ni l,.ref ul,W,.bool (aW (aX Y l)),.bool (Mine.Lake.named Y l),.ref w,.ref y,.aa,.aa,.aa,.aa,.aa,.aa,.aa,.aa] Q:=by
 have ws:=h.t.ok.n5;have m:=Lm h F Zw;have A:=H'.len;have K:(Lc l j p r).length<=2:=by
  unfold Lc;cases j with
  |true=>exact ai _|false=>exact bq _
 have pu:∀x∈Lc l j p r,x.1∈dX:=by
  unfold Lc;cases j with
  |true=>
   intro x i;rcases bg.mp i with e|i
   ·exact Z e (L3 (bv C ws) (dd rfl))
   ·exact Z (al.mp i) (L3 (bv C ws) (dd rfl))
  |false=>exact fun x i=>absurd i am
 refine AL (CW (CW (JN (CW (Aa (v:=.ref w) rfl rfl _ (Z c.kY (QQ e7 (Z (ac ..) (tE m A)) fun r9 ys xs N=>?_)))))));refine Ad (N8 N kps rfl) fun Ab a ey=>Z ey ?_;have rL:=aD.set (o:=.list (Ab.map fun x=>V.ref x.2)) xs;refine Aa (v:=.ref y) rfl rfl _ (KM (U.ak ..) (rL _ _ e8) ?_ fun rs P=>?_)
 ·exact Z (ac ..) (Z (ac ..) (Z a.length_eq (sz (vQ m A K))))
 have R:=rL.trans (aD.set (o:=.list ((Ab.map fun x=>V.ref x.2)++((Lc l j p r).map fun x=>V.ref x.2))) P);refine Z g.mV ?_;have qk:=fun x i=>H'.sub x (a.mem_iff.mp i);refine JH (ps:=Ab++Lc l j p r) ((U.ak ..).trans (Z bP rfl)) (Z ba (Z a.length_eq (Aev m A K))) (fun x i=>?_) fun r2 kps2 S T=>?_
 ·rcases bX.mp i with i|i
  ·exact⟨LR h F x (qk x i),R _ _ (ad x (qk x i))⟩
  ·exact⟨pu x i,R _ _ (hp x i)⟩
 have s:=T.len;rw[ba,a.length_eq]at s;refine Z c.lq (ME (U.ak ..) (Z (ac ..) (Aeu m A K s)) ?_);have n:=h.cells C T.nd fun mm=>by
  refine Z (propext (Ma T)) (Z bP (Z (propext bX) (or_congr ?_ ?_)))
  ·rewrite[(a.map (·.1)).mem_iff];refine Z (propext (Ma H')) (Z (propext (Lh F)) ?_);constructor
   ·rintro⟨z,AH,h1,u⟩;refine Az (Lj h1) fun m' e B aj=>?_;rw[<-ag (u.symm.trans e)]at B;exact⟨B,z,AH,u,aj⟩
   ·rintro⟨B,z,AH,u,aj⟩;exact⟨z,AH,Aa3 u B aj,u⟩
  ·refine Z E ?_;unfold Lc;cases aW (aX Y l)<;>cases(aX Y l).st
   ·exact⟨fun z=>absurd z am,fun z=>bU z.1⟩
   ·exact⟨fun z=>absurd z am,fun z=>bU z.1⟩
   ·refine⟨fun z=>⟨rfl,rfl,?_⟩,fun z=>?_⟩
    ·rcases bg.mp z with e|z
     ·exact .inl e
     ·exact .inr (al.mp z)
    ·rcases z.2.2 with e|e
     ·exact Z e (.head _)
     ·exact Z e (.tail _ (.head _))
   ·exact⟨fun z=>absurd z am,fun z=>bU z.2.1.symm⟩
 rw[ac]at n ⊢;exact q _ _ (R.trans (aD.set S)) n.1 n.2
theorem RC{A:WE}{y:String}(b:bL H rl Y)(e:l<Y.length)(f:Y.length<=5)(g:Pv (O 1) H m (.ref rl))(a:Pv A H m (ni l))(h:∀u,[("twice",V.bool (aX Y l).tw),("strict",.bool (aX Y l).st),("within",.bool (aX Y l).wi),("uses",.ref u)].lookup y=some v\/y="uses")(i:y≠"uses"):Pv (Ax (Ax (O 1) A) (Ae (.str y))) H m v:=by
 obtain⟨o,r,u,ps,c,d,j,k⟩:=b.get (El e);obtain⟨p,n⟩:=k.ex;exact Fu (Gf g c a d (Xx f e)) n ((h u).resolve_right i)
theorem zc(c:Code X G k)(g:Bj X G la ns)(h:L2 k H0 H L D J Y pa b)(hl:l<Y.length)(rw':bL H rl Y)(hu:cT H ul (Aw Y Y 0) ps){a4:V}(q:∀I n a7 a8,aD H I->D.nc (J l).f=n->D.nl (J l).f+n=(sorts Y l).length->Bo X d G I [.ref (L.sc (J l).f),.ref rl,ni l,.ref ul,a4,.bool (aW (aX Y l)),.bool (Mine.Lake.named Y l),a7,a8,ni n,.aa,.aa,.aa,.aa,.aa,.aa,.aa] Q):
  B1 X d G H [.ref (L.sc (J l).f),.ref rl,ni l,.ref ul,a4,.bool (aW (aX Y l)),.bool (Mine.Lake.named Y l),.aa,.aa,.aa,.aa,.aa,.aa,.aa,.aa,.aa,.aa] Q:=by
 have hz20:=Ee h.t;have h5:=h.t.ok.n5;refine AL (CW (Se (P:=QK l) (tl:=[ni l]) (fun z hz=>by refine Ad (Lj hz) fun mm e w=>?_;refine Z e ?_;exact fun e=>gU e.symm) (Aa (v:=.ref ul) rfl rfl) hu (ab hz20 (dd rfl)) rfl (fun z w v mv=>yF mv) fun r qs hr hq=>?_));have e1:=aD.set (o:=.list (qs.map fun x=>.ref x.2)) hr;have q15:=Lm h hq Zw;refine Z g.mV (JH hq.e (uw q15) (fun x hx=>⟨LR h hq x hx,hq.pr x hx⟩) fun r7 kps hr7 H'=>?_);have e2:=e1.trans (aD.set (o:=.set (kps.map fun x=>.ref x.2)) hr7);have e27:=U.ak (H.set r (.list (qs.map fun x=>.ref x.2))) r7 (.set (kps.map fun x=>.ref x.2));have hqh:∀x∈qs,bW ((H.set r (.list (qs.map fun x=>.ref x.2))).set r7 (.set (kps.map fun x=>.ref x.2))) x.2 x.1:=fun x hx=>Ah hr7 (hq.pr x hx);generalize(H.set r (.list (qs.map fun x=>.ref x.2))).set r7 (.set (kps.map fun x=>.ref x.2))=H2 at e2 e27 hqh ⊢;have rw2:=rw'.kp e2.kp;have t:=GJ (AJ (RC (m:=[.ref (L.sc (J l).f),.ref rl,ni l,.ref ul,a4,.bool (aW (aX Y l)),.bool (Mine.Lake.named Y l),.ref r7,.aa,.aa,.aa,.aa,.aa,.aa,.aa,.aa,.aa]) (A:=O 2) (y:="strict") (v:=.bool (aX Y l).st) rw2 hl h5 (Aa rfl rfl) (Aa rfl rfl) (fun u=>.inl rfl) (dd rfl))) (GJ (IP (AJ (A:=O 5) (c:=aW (aX Y l)) (Aa rfl rfl))) (Ho));have fin:∀H3 r8 t0 t6 on,aD H2 H3->on=(aW (aX Y l)&&!(aX Y l).st)->H3 r8=some (.list ((Lc l on t0 t6).map fun x=>.ref x.2))->(∀x∈Lc l on t0 t6,bW H3 x.2 x.1)->BZ X d G H3 [.ref (L.sc (J l).f),.ref rl,ni l,.ref ul,a4,.bool (aW (aX Y l)),.bool (Mine.Lake.named Y l),.ref r7,.ref r8,.aa,.aa,.aa,.aa,.aa,.aa,.aa,.aa] Q:=fun H3 r8 t0 t6 on e3 hon e8 hp=>
  xK c g (h.ext (e2.trans e3)) hl hon hq (fun x hx=>e3 _ _ (hqh x hx)) H' (e3 _ _ e27) e8 hp fun I n e4 n1 n2=>q I n _ _ ((e2.trans e3).trans e4) n1 n2
 cases hc:((aX Y l).st||(!aW (aX Y l)||false))with
 |true=>
  rw[hc]at t;refine AL (Ev t (AX A4 (bq _) fun r8 hr8=>fin _ r8 0 0 false (aD.set hr8) ?_ (U.ak ..) fun x hx=>absurd hx am));revert hc;cases(aX Y l).st<;>cases aW (aX Y l)<;>decide
 |false=>
  rw[hc]at t;refine AL (Es t (Co (KZ (Aa (v:=ni l) rfl rfl _ (Af (v:=ni 0) _ ⟨(dd rfl:2<=aT),fun t0 ht0=>CW (bV (AD (Aa (v:=ni l) rfl rfl) (Af (v:=ni 6))) (dd rfl:2<=aT) fun t6 ht6=>⟨(dd rfl:2<=aT),fun r8 hr8=>fin _ r8 t0 t6 true (((aD.set ht0).trans (aD.set ht6)).trans (aD.set hr8)) ?_ (U.ak ..) fun x hx=>?_⟩)⟩)))))
  ·revert hc;cases(aX Y l).st<;>cases aW (aX Y l)<;>decide
  ·rcases bg.mp hx with e|hx
   ·exact Z e (Ah hr8 (Ah ht6 (U.ak ..)))
   ·exact Z (al.mp hx) (Ah hr8 (U.ak ..))
theorem Rm(cm:Addr->Bool){x y:Int}(e:x=y):Bv cm H .NotEq (.int x) (.int y)=some false:=by
 refine Z Dv (Z Jv (Z (decide_eq_true e) ?_));rfl
theorem wR(c:Code X G k)(g:Bj X G la ns)(h:L2 k H0 H L D J Y pa b)(u:l<Y.length){n:Nat}(w:D.nc (J l).f=n)(p:D.nl (J l).f+n=(sorts Y l).length){a m o:V}(q:BY X d G H [.ref (L.sc (J l).f),.ref rl,ni l,.ref ul,a,.bool (aW (aX Y l)),.bool (Mine.Lake.named Y l),m,o,ni n,.aa,.aa,.aa,.aa,.aa,.aa,.aa] Q):
  Bo X d G H [.ref (L.sc (J l).f),.ref rl,ni l,.ref ul,a,.bool (aW (aX Y l)),.bool (Mine.Lake.named Y l),m,o,ni n,.aa,.aa,.aa,.aa,.aa,.aa,.aa] Q:=by
 refine Ad (h.an.st.fn _ _ (h.f u) rfl) fun f y r=>?_;have s:∀{j:At} {v:Int},f j=.int v->Pv (Aj X j (O 0)) H [.ref (L.sc (J l).f),.ref rl,ni l,.ref ul,a,.bool (aW (aX Y l)),.bool (Mine.Lake.named Y l),m,o,ni n,.aa,.aa,.aa,.aa,.aa,.aa,.aa] (.int v):=fun e=>Am (Aa rfl rfl) (c.fS y e rfl rfl);have t:∀{i:Nat} {x:Bool},([V.ref (L.sc (J l).f),.ref rl,ni l,.ref ul,a,.bool (aW (aX Y l)),.bool (Mine.Lake.named Y l),m,o,ni n,.aa,.aa,.aa,.aa,.aa,.aa,.aa]).getD i .aa=.bool x->Pv (Ai X d (G "int") (Ac (O i) Ag)) H [.ref (L.sc (J l).f),.ref rl,ni l,.ref ul,a,.bool (aW (aX Y l)),.bool (Mine.Lake.named Y l),m,o,ni n,.aa,.aa,.aa,.aa,.aa,.aa,.aa] (.int (if x then 1 else 0)):=fun e Q z=>Gb (AG (Aa e rfl)) (Z g.mZ (Jx z));refine Bs (Du (aB (s r.nc) (Aa rfl rfl) (Rm X.cm (congrArg Nat.cast w))) (Du (aB (s r.nl) (OM (HL (HL (Af) (t rfl)) (t rfl)) (Aa rfl rfl)) (Rm X.cm ?_)) Ho)) q;rw[TV]at p;show((D.nl (J l).f):Int)=_;cases A:aW (aX Y l)<;>cases B:Mine.Lake.named Y l<;>rw[A,B]at p<;>simp only[if_true,if_false,Bool.false_eq_true]at p ⊢<;>lia
theorem L2.placed(h:L2 k H0 H L D J Y pa b)(a:mm.1<Y.length)(c:mm∈Mine.Lake.sorts Y mm.1):∃d n,D.aQ (kb J mm)=some (d,n):=(L5 h.an (h.own a c)).elim fun n e=>⟨_,n,e⟩
theorem SG(cm:Addr->Bool){x y:Bool}(e:x≠y):Bv cm H .Eq (.bool x) (.bool y)=some false:=by
 refine Z GK ?_;show some (x==y)=_;exact Z (beq_eq_false_iff_ne.mpr e) rfl
theorem Vy(cm:Addr->Bool){o:Option (String×Nat)}(h:cC H v o):Bv cm H .Is v .none=some o.isNone:=by
 cases o with
 |none=>refine Z (h) ?_;rfl
 |some p=>refine Ad h fun a e z=>?_;refine Z e ?_;rfl
theorem L2.rK(h:L2 k H0 H L D J Y pa b)(i:l<Y.length):(D.aQ (kb J (l,3))).isNone=!Mine.Lake.named Y l:=by
 cases e:Mine.Lake.named Y l with
 |true=>
  refine CL (h.placed (mm:=(l,3)) i (bY.mpr ⟨rfl,.inr (.inr (.inr (.inr (.inl ⟨e,rfl⟩))))⟩)) fun x n q=>?_;rw[q];rfl
 |false=>
  rw[h.an.no _ fun v y s o a=>?_]
  ·rfl
  rcases h.mem.mp s with m|⟨j,p,m|m⟩
  ·rw[(bS m).1]at a;refine AA h.hb fun z f=>?_;unfold Mine.Lake.bG at a;rw[show CV (gH J Y pa b) (T.prog pa b).aq=[]from VE h.d f]at a;exact absurd a am
  ·rw[cu]at m;rw[(bS m).1,h.bG p]at a;refine Ad (bn.mp a) fun mm r u=>?_;have c:=bY.mp r;have w:Lv Y.length mm:=⟨c.1▸p,c.2.elim (fun e=>.inl (Z e (dd rfl))) fun h=>h.elim .inr fun h=>.inl (h.elim (fun e=>Z e.2 (dd rfl)) fun h=>h.elim (fun e=>Z e (dd rfl)) fun h=>h.elim (fun e=>Z e.2 (dd rfl)) fun e=>Z e (dd rfl))⟩
   have:=Js h.d h.t w (⟨i,.inl (dd rfl)⟩) u;rw[this]at c r;have g:=c.1;rw[<-g]at c;have q:=c.2;rcases q with q|q|⟨_,q⟩|q|⟨q,_⟩|q
   ·exact absurd q (dd rfl)
   ·exact absurd q (dd rfl)
   ·exact absurd q (dd rfl)
   ·exact absurd q (dd rfl)
   ·exact bU (e.symm.trans q)
   ·exact absurd q (dd rfl)
  ·rw[(bS m).1]at o;exact bU o
theorem yL(c:Code X G k)(g:Bj X G la ns)(h:L2 k H0 H L D J Y pa b)(e:l<Y.length){a i j o p:V}(q:BO X (d+2) G H [.ref (L.sc (J l).f),.ref rl,ni l,a,i,.bool (aW (aX Y l)),.bool (Mine.Lake.named Y l),j,o,p,.aa,.aa,.aa,.aa,.aa,.aa,.aa] Q):
  BX X (d+2) G H [.ref (L.sc (J l).f),.ref rl,ni l,a,i,.bool (aW (aX Y l)),.bool (Mine.Lake.named Y l),j,o,p,.aa,.aa,.aa,.aa,.aa,.aa,.aa] Q:=by
 refine Ad (Yn (d:=d) c g h e (A:=O 0) (m:=[.ref (L.sc (J l).f),.ref rl,ni l,a,i,.bool (aW (aX Y l)),.bool (Mine.Lake.named Y l),j,o,p,.aa,.aa,.aa,.aa,.aa,.aa,.aa]) (Aa rfl rfl)) fun v z B=>Az (SA (d:=d) c g h e (A:=O 0) (m:=[.ref (L.sc (J l).f),.ref rl,ni l,a,i,.bool (aW (aX Y l)),.bool (Mine.Lake.named Y l),j,o,p,.aa,.aa,.aa,.aa,.aa,.aa,.aa]) (Aa rfl rfl)) fun C r s t=>?_;have w:=Vy X.cm z;rw[h.rK e]at w;have E:Bv X.cm H .Is C .none=some (!aW (aX Y l)):=by
  cases u:aW (aX Y l)with
  |true=>
   refine CL (h.placed (mm:=(l,4)) e (bY.mpr ⟨rfl,.inr (.inr (.inl ⟨u,rfl⟩))⟩)) fun F n q=>?_;have:=Vy X.cm (r u);rw[q]at this;exact this
  |false=>refine Z (s u) ?_;rfl
 have y:∀x:Bool,(!x)≠x:=fun x=>by cases x<;>decide
 exact Bs (Du (aB (Eu B Af w) (Aa (v:=.bool (Mine.Lake.named Y l)) rfl rfl) (SG X.cm (y _))) (Du (aB (Eu t Af E) (Aa (v:=.bool (aW (aX Y l))) rfl rfl) (SG X.cm (y _))) Ho)) q
theorem Sx{o:String->Option (String×Nat)}:∀{ys:List String} {M c:List V},(∀y∈ys,∃q,o y=some q)->bw (fun x y=>cC H x (o y)) M ys->bw (fun x y=>cC H x (o y)) c ys->DU (dK cm H 7) M c=some true:=by
 intro l;induction l with
 |nil=>
  intro M c _ h d;refine Z h.mF (Z d.mF ?_);rfl
 |cons y ys m=>
  intro M c i h d;refine Ay h.j8 fun x r a j t=>?_;subst a;refine Ay d.j8 fun z u a k f=>?_;subst a;obtain⟨⟨s,n⟩,e⟩:=i y (.head _);rw[e]at j k;refine Ad j fun p b v=>?_;subst b;refine Ad k fun w b g=>?_;subst b;refine Z CD (Z (m (fun y A=>i y (.tail _ A)) t f) ?_);have:dK cm H 7 (.ref p) (.ref w)=some true:=by simp[DI,MI,Jv,v,g,CD,Gx]
  refine Z this ?_;rfl
inductive Zc(H:U)(D:cD)(sc:V)(f:Addr)(ys:List String)(j:Nat)(acc:List V)(H1:U)(m:List V):Prop where
 |mk (a:V):m=[.aa,a,sc]->aD H H1->bw (fun x y=>cC H1 x (D.aQ ⟨.own,f,y⟩)) acc (ys.take j)->Zc H D sc f ys j acc H1 m
end
section
variable{k:fW}{H0 H I:U}{L:Loc}{D:cD}{J:Nat->iy}{Y:List Row}{pa:Addr}{b:List T}{l d:Nat}{X:Cx}{G:String->V}{la:Addr}{ns:List Int}{m:List V}{rl:Addr}{Q:bu->U->List V->Prop}
theorem L2.ps(h:L2 k H0 H L D J Y pa b)(a:l<Y.length):∀y∈B5 l (aX Y l),(∃q,D.aQ ⟨.own,(J l).f,y⟩=some q)/\y∈(fT J Y l).names:=fun y c=>by
 rcases ji.mp c with e|e
 ·exact Z e (CL (h.placed (mm:=(l,0)) a (bY.mpr ⟨rfl,.inl rfl⟩)) fun d n q=>⟨⟨_,q⟩,(h.t.names a).mpr (.inl rfl)⟩)
 ·exact Z e (CL (h.placed (mm:=(l,6)) a (bY.mpr ⟨rfl,.inr (.inl rfl)⟩)) fun d n q=>⟨⟨_,q⟩,(h.t.names a).mpr (.inr (.inl rfl))⟩)
variable{ul' a4 a5 a6 a7 a8 a9:V}
theorem AeB(c:Code X G k)(g:Bj X G la ns)(h:L2 k H0 H L D J Y pa b)(hl:l<Y.length)(q:∀I,aD H I->BX X (d+4) G I [.ref (L.sc (J l).f),.ref rl,ni l,ul',a4,a5,a6,a7,a8,a9,.aa,.aa,.aa,.aa,.aa,.aa,.aa] Q):
  BY X (d+4) G H [.ref (L.sc (J l).f),.ref rl,ni l,ul',a4,a5,a6,a7,a8,a9,.aa,.aa,.aa,.aa,.aa,.aa,.aa] Q:=by
 refine Ad (h.an.st.fn _ _ (h.f hl) rfl) fun f ef zf=>?_;have epp:=h.an.st.ls _ _ (h.f hl) rfl .aA (dd rfl);have pp:=(h.an.pp _ _ (h.f hl) rfl).all;refine aV (h.lst c (h.f hl) rfl (j:=.params) (dd rfl)) fun l1 l2=>?_;have l2:H (L.ls (J l).f .params)=some (.list ((B5 l (aX Y l)).map .str)):=l2;have pl:(B5 l (aX Y l)).length<=3:=by
  unfold B5;cases(aX Y l).tw with
  |true=>exact ai _|false=>exact ip _
 refine fO (GH (Am (Aa rfl rfl) (c.fS ef (zf.lst .aA (dd rfl)) rfl rfl)) (Fg (Am (Aa rfl rfl) l1) l2 (sz (by rw[ac];exact ab pl (dd rfl))) (NN (Zc H D (.ref (L.sc (J l).f)) (J l).f (B5 l (aX Y l))) ?_ ?_ ⟨.aa,rfl,aD.refl H,trivial⟩)))
 ·rintro j x acc H1 m hx ⟨a,rfl,e1,hall⟩;obtain⟨y,hy,hxp⟩:∃y,(B5 l (aX Y l))[j]?=some y/\x=.str y:=by
   rw[b9]at hx;cases e:(B5 l (aX Y l))[j]? with
   |none=>rw[e]at hx;cases hx
   |some p=>rw[e]at hx;exact⟨p,rfl,(ag hx).symm⟩
  obtain⟨⟨⟨kd,n⟩,hq⟩,hn⟩:=h.ps hl y (ay hy);rw[hxp];refine⟨e1 _ _ l2,_,rfl,fun KE KN hE hN=>S0 (lL ?_)⟩;have h1:=h.ext e1;have lk:Ak (fT J Y l::iZ J Y (.prog pa b) l) y=(some ⟨.own,(J l).f,y⟩,[]):=N7 h.t hl hn;refine Ad (h1.find c (h.f hl) (show GE D _ (fT J Y l::iZ J Y (.prog pa b) l) y=some (rI (kd,n))by rw[Cl (by rw[lk]) (by rw[lk]),hq];rfl)) fun fm hfm hqm=>Bz (Aa rfl rfl) hfm (AG (Aa rfl rfl)) (hqm H1 (aD.refl H1) _ fun H2 v e2 hv=>hE _ _ ⟨_,rfl,e1.trans e2,?_⟩) (ai _);rw[AK hy];exact(hall.mono fun w w w z=>z.ext fun w w e=>e2 _ _ e).app ⟨(show cC H2 v (D.aQ ⟨.own,(J l).f,y⟩)by rw[hq];exact hv),trivial⟩
 ·rintro acc H1 m ⟨a,rfl,e1,hall⟩;rw[ac,dp]at hall;refine⟨e1 _ _ l2,fun r hr=>⟨false,?_,gF (q _ (e1.trans (aD.set hr)))⟩⟩;have e2:=e1.trans (aD.set (o:=.list acc) hr);have pp2:=pp.mono fun w w w z=>z.ext fun w w e=>e2 _ _ e;have ac2:bw (fun x y=>cC (H1.set r (.list acc)) x (D.aQ ⟨.own,(J l).f,y⟩)) acc (B5 l (aX Y l)):=hall.mono fun w w w z=>z.ext fun w w e=>Ah hr e;have:=Sx (cm:=X.cm) (o:=fun y=>D.aQ ⟨.own,(J l).f,y⟩) (fun y hy=>(h.ps hl y hy).1) pp2 ac2;rw[Dv,DI,show(H1.set r (.list acc)) (L.ls (fT J Y l).aq .aA)=_ from e2 _ _ epp,U.ak];dsimp only;rw[if_pos (pp2.length.trans ac2.length.symm),show DU (dK X.cm (H1.set r (.list acc)) 7) (D.lst (fT J Y l).aq .aA) acc=_ from this];rfl
theorem SP(cm:Addr->Bool){x:Bool}:Bv cm H .NotEq (.bool x) (.bool x)=some false:=by
 refine Z Dv ?_;show(some (x==x)).map _=_;refine Z (beq_self_eq_true ..) ?_;rfl
theorem zO(c:Code X G k)(h:L2 k H0 H L D J Y pa b)(e:l<Y.length)(g:bL H rl Y){a i j m n o:V}(q:BH X d G H [.ref (L.sc (J l).f),.ref rl,ni l,a,i,.bool (aW (aX Y l)),j,m,n,o,.aa,.aa,.aa,.aa,.aa,.aa,.aa] Q):
  BO X d G H [.ref (L.sc (J l).f),.ref rl,ni l,a,i,.bool (aW (aX Y l)),j,m,n,o,.aa,.aa,.aa,.aa,.aa,.aa,.aa] Q:=by
 refine Ad (h.an.st.fn _ _ (h.f e) rfl) fun f p r=>?_;have s:f .aR=.bool (aW (aX Y l)):=by exact Z r.args (Z (h.t.args e) rfl)
 have es:=r.strict;exact Bs (Du (aB (Am (Aa rfl rfl) (c.fS p s rfl rfl)) (Aa rfl rfl) (SP X.cm)) (Du (aB (Am (Aa rfl rfl) (c.fS p es rfl rfl)) (RC g e h.t.ok.n5 (Aa rfl rfl) (Aa rfl rfl) (fun u=>.inl rfl) (dd rfl)) (SP X.cm)) Ho)) q
theorem AcO(c:Code X G k)(g:Bj X G la ns)(h:L2 k H0 H L D J Y pa b)(hl:l<Y.length)(q:∀I,aD H I->BP X (d+4) G I [.ref (L.sc (J l).f),.ref rl,ni l,ul',a4,.bool (aW (aX Y l)),a6,a7,a8,a9,.aa,.aa,.aa,.aa,.aa,.aa,.aa] Q):
  BH X (d+4) G H [.ref (L.sc (J l).f),.ref rl,ni l,ul',a4,.bool (aW (aX Y l)),a6,a7,a8,a9,.aa,.aa,.aa,.aa,.aa,.aa,.aa] Q:=by
 refine Az (SA (d:=d+2) c g h hl (A:=O 0) (m:=[.ref (L.sc (J l).f),.ref rl,ni l,ul',a4,.bool (aW (aX Y l)),a6,a7,a8,a9,.aa,.aa,.aa,.aa,.aa,.aa,.aa]) (Aa rfl rfl)) fun v2 hv2 hv3 pv2=>?_;have t:cP (Av (O 5)) H [.ref (L.sc (J l).f),.ref rl,ni l,ul',a4,.bool (aW (aX Y l)),a6,a7,a8,a9,.aa,.aa,.aa,.aa,.aa,.aa,.aa] (aW (aX Y l)):=AJ (Aa rfl rfl);cases ha:aW (aX Y l)with
 |false=>rw[ha]at t q;exact Bs (A0 t) (q H (aD.refl H))
 |true=>
  rw[ha]at t q;have lk:=rJ (P:=.prog pa b) h.t hl ha;refine CL (h.placed (mm:=(l,4)) hl (bY.mpr ⟨rfl,.inr (.inr (.inl ⟨ha,rfl⟩))⟩)) fun kd n hp=>?_;have px:GE D (Ch D.aQ (aU [T.prog pa b] b)) (fT J Y l::iZ J Y (.prog pa b) l) "arguments"=some [.str kd,.int n]:=by
   rw[<-cu,Cl (by rw[lk]) (by rw[lk];exact CF (ai _)),hp];rfl
  refine Ad (h.find (d:=d) c (h.f hl) px) fun fm hfm hqm=>?_;have v2k:=hv2 ha;rw[hp]at v2k;refine Ad v2k fun p2 zq1 hp2=>?_;subst zq1;rw[ha]at pv2;refine fO (KL t (pv2 _ (Bz (d:=d) (e₂:=4) (Aa (v:=aZ L (fT J Y l::iZ J Y (.prog pa b) l)) rfl rfl) hfm (AG (Af (v:=.str "arguments"))) (hqm H (aD.refl H) _ fun H1 y e1 hy=>Ad hy fun yp zq1 hyp=>?_) (ai _))));subst zq1;exact⟨false,Og (e1 _ _ hp2) hyp,gF (gF (q H1 e1))⟩
theorem L2.const(h:L2 k H0 H L D J Y pa b)(c:Code X G k){v:T}{vs:List T}{x:String}(m:v::vs∈gH J Y pa b):
  ∃f,aO X H (aZ L (v::vs)) (ae "is_constant") f/\∀i,aD H i->∀Q:V->U->Prop,(∀I,aD i I->Q (.bool (CI (v::vs) x)) I)->aG X (d+3) i f [aZ L (v::vs),.str x] Q:=by
 have o:∀i,aD H i->∀R:V->U->Prop,(∀g,aD i g->R (oZ L (Ak (v::vs) x).1) g)->aG X (d+2) i (G "look_up") [aZ L (v::vs),.str x] fun a g=>Ae (.int 0) g [] fun b aab=>Wb aab a b fun v=>R v aab:=fun i j R t=>
  Dy c (h.ext j).an.st m (ab (cv (h.len m)) (dd rfl)) fun g p r l z u z=>⟨_,.tup u (dd rfl) (dd rfl) rfl,t g l⟩
 cases s:v.aK with
 |true=>
  exact Ad (h.an.st.fn v vs m s) fun f e z=>Ad c.dG fun w n xs=>⟨_,aO.inst (c.cx.cls _ c.jb) xs e,fun i j Q q=>(Z (ap n) (c.cO.call rfl (AL (Cp (Ao (AD (Aa rfl rfl) (Aa rfl rfl)) (o i j _ fun g l=>A9 (Fo c ((h.ext j).an.st.ext l) m rfl) (q g l)) (ai _))))))⟩
 |false=>
  exact Ad (h.an.st.ca v vs m s) fun f e z=>Ad c.dF fun w n xs=>⟨_,aO.inst (c.cx.cls _ c.mz) xs e,fun i j Q q=>(Z (ap n) (c.cg.call rfl (AL (Cp (Ao (AD (Aa rfl rfl) (Aa rfl rfl)) (o i j _ fun g l=>A9 (Fo c ((h.ext j).an.st.ext l) m rfl) (q g l)) (ai _))))))⟩
theorem yz(c:Code X G k)(g:Bj X G la ns)(h:L2 k H0 H L D J Y pa b)(m:l<Y.length){a n o p s u v:V}(q:∀I e,aD H I->I e=some (.list ((nms l).map .str))->BM X (d+1) G I [.ref (L.sc (J l).f),.ref rl,ni l,a,n,o,p,s,u,v,.ref (L.sc (J l).t),.ref e,.aa,.aa,.aa,.aa,.aa] Q):
  BP X (d+1) G H [.ref (L.sc (J l).f),.ref rl,ni l,a,n,o,p,s,u,v,.aa,.aa,.aa,.aa,.aa,.aa,.aa] Q:=by
 have i:=h.t.lt m;exact aV (h.aN c m) fun x y=>Fh (BR (Am (Aa rfl rfl) x) y rfl rfl _ (Ao (AG (Aa rfl rfl)) (Fq g (YT i) fun e j=>fun r w=>q _ e ((aD.set j).trans (aD.set w)) (Ah w (U.ak ..))) (ai _)))
variable{nl:Addr}
theorem wA(c:Code X G k)(g:Bj X G la ns)(h:L2 k H0 H L D J Y pa b)(hl:l<Y.length)(en:H nl=some (.list ((nms l).map .str)))(q:∀I,aD H I->BE X (d+4) G I [.ref (L.sc (J l).f),.ref rl,ni l,ul',a4,a5,a6,a7,a8,a9,.ref (L.sc (J l).t),.ref nl,.aa,.aa,.aa,.aa,.aa] Q):
  BM X (d+4) G H [.ref (L.sc (J l).f),.ref rl,ni l,ul',a4,a5,a6,a7,a8,a9,.ref (L.sc (J l).t),.ref nl,.aa,.aa,.aa,.aa,.aa] Q:=by
 have hl6:=h.t.lt hl;refine CL (h.placed (mm:=(l,2)) hl (bY.mpr ⟨rfl,.inr (.inr (.inr (.inr (.inr rfl))))⟩)) fun kd n hp=>CL (h.placed (mm:=(l,1)) hl (bY.mpr ⟨rfl,.inr (.inr (.inr (.inl rfl)))⟩)) fun kd1 n1 hp1=>?_;have nve:bx "v" l≠bx "e" l:=fun z=>absurd (Gm "v" (dd rfl) "e" (dd rfl) l hl6 l hl6 z).1 (dd rfl);have p0:CS J l l=[]:=CF (ai _);have lv:=Vh (P:=.prog pa b) h.t hl (ai l);have x2:GE D (Ch D.aQ (aU [T.prog pa b] b)) (tT J Y l::cF J Y (.prog pa b) l) (bx "e" l)=some [.str kd,.int n]:=by
  rw[Cl (by rw[Of]) (by rw[Of]),show(⟨.cat,(J l).t,bx "e" l⟩:BK)=kb J (l,2)from rfl,hp];rfl
 have x1:GE D (Ch D.aQ (aU [T.prog pa b] b)) (tT J Y l::cF J Y (.prog pa b) l) (bx "v" l)=some [.str kd1,.int n1]:=by
  rw[Cl (by rw[KT nve,lv]) (by rw[KT nve,lv];exact p0),hp1];rfl
 have x0:GE D (Ch D.aQ (aU [T.prog pa b] b)) (fT J Y l::iZ J Y (.prog pa b) l) (bx "v" l)=some [.str kd1,.int n1]:=by
  rw[<-cu,Cl (by rw[lv]) (by rw[lv];exact p0),hp1];rfl
 refine Ad (h.find (d:=d) c (h.tr hl) x2) fun f2 hf2 hq2=>fO (eE (Bz (d:=d) (e₂:=4) (Aa (v:=aZ L (tT J Y l::cF J Y (.prog pa b) l)) rfl rfl) hf2 (AG (BR (n:=2) (v:=.str (bx "e" l)) (Aa (v:=.ref nl) rfl rfl) en rfl rfl)) (hq2 H (aD.refl H) _ fun H1 y e1 hy=>Ad hy fun yp zq1 hyp=>?_) (ai _)));subst zq1;have h1:=h.ext e1;refine Cr (h1.cU c hl) fun d1 g' e' z'=>Ad (hp▸z'.aQ:cC H1 (g' .place) (some (kd,n))) fun p hp2 hp3=>Am (Am (Aa (v:=.ref (L.sc (J l).t)) rfl rfl) d1) (c.fB e' hp2 rfl rfl) _ ⟨false,Og hyp hp3,gF (Ad (h1.find (d:=d) c (h.tr hl) x1) fun f1 hf1 hq1=>eE (Bz (d:=d) (e₂:=4) (Aa (v:=aZ L (tT J Y l::cF J Y (.prog pa b) l)) rfl rfl) hf1 (AG (BR (n:=1) (v:=.str (bx "v" l)) (Aa (v:=.ref nl) rfl rfl) (e1 _ _ en) rfl rfl)) (hq1 H1 (aD.refl H1) _ fun H2 y2 e2 hy2=>Ad hy2 fun yp2 zq1 hyp2=>?_) (ai _)))⟩;subst zq1;have e12:=e1.trans e2;have h2:=h.ext e12;refine Ad (h2.find (d:=d) c (h.f hl) x0) fun f0 hf0 hq0=>Bz (d:=d) (e₂:=4) (Aa (v:=aZ L (fT J Y l::iZ J Y (.prog pa b) l)) rfl rfl) hf0 (AG (BR (n:=1) (v:=.str (bx "v" l)) (Aa (v:=.ref nl) rfl rfl) (e12 _ _ en) rfl rfl)) (hq0 H2 (aD.refl H2) _ fun H3 y3 e3 hy3=>Ad hy3 fun yp3 zq1 hyp3=>?_) (ai _);subst zq1;exact⟨false,Og (e3 _ _ hyp2) hyp3,gF (HY (gF (q H3 (e12.trans e3))))⟩
theorem Ac6(c:Code X G k)(g:Bj X G la ns)(h:L2 k H0 H L D J Y pa b)(hl:l<Y.length)(en:H nl=some (.list ((nms l).map .str)))(q:∀I,aD H I->BF X (d+4) G I [.ref (L.sc (J l).f),.ref rl,ni l,ul',a4,a5,a6,a7,a8,a9,.ref (L.sc (J l).t),.ref nl,.aa,.aa,.aa,.aa,.aa] Q):
  BE X (d+4) G H [.ref (L.sc (J l).f),.ref rl,ni l,ul',a4,a5,a6,a7,a8,a9,.ref (L.sc (J l).t),.ref nl,.aa,.aa,.aa,.aa,.aa] Q:=by
 have hl6:=h.t.lt hl;have xz:GE D (Ch D.aQ (aU [T.prog pa b] b)) (tT J Y l::cF J Y (.prog pa b) l) "zz"=some [.str "global",.str "zz"]:=Jw (by rw[KT (kl (BG "e" (dd rfl) l hl6).2.2)];exact ZQ h.t hl);refine Ad (h.find (d:=d) c (h.tr hl) xz) fun f2 hf2 hq2=>fO (eE (Bz (d:=d) (e₂:=4) (Aa (v:=aZ L (tT J Y l::cF J Y (.prog pa b) l)) rfl rfl) hf2 (AG (Af (v:=.str "zz"))) (hq2 H (aD.refl H) _ fun H1 y e1 hy=>Ad hy fun yp zq1 hyp=>?_) (ai _)));subst zq1;refine bV (AD (Af (v:=.str "global")) (Af (v:=.str "zz"))) (dd rfl:2<=aT) fun t ht=>⟨false,Qp (Ah ht hyp) (U.ak ..),gF ?_⟩
 have e2:=e1.trans (aD.set (o:=.tup [.str "global",.str "zz"]) ht);have h2:=h.ext e2;refine Ad (h2.const (d:=d+1) (x:=bx "e" l) c (h.tr hl)) fun f3 hf3 hq3=>?_;have ec:CI (tT J Y l::cF J Y (.prog pa b) l) (bx "e" l)=false:=by rw[CQ (by rw[Of])];rfl
 rw[ec]at hq3;exact eE (Bz (d:=d+1) (e₁:=3) (e₂:=3) (Aa (v:=aZ L (tT J Y l::cF J Y (.prog pa b) l)) rfl rfl) hf3 (AG (BR (n:=2) (v:=.str (bx "e" l)) (Aa (v:=.ref nl) rfl rfl) (e2 _ _ en) rfl rfl)) (hq3 _ (aD.refl _) _ fun H3 e3=>⟨false,rfl,gF (HY (gF (q H3 (e2.trans e3))))⟩) (ai _))
variable{R:V->U->Prop}
theorem PB(c:Code X G k)(g:Bj X G la ns)(h:L2 k H0 H L D J Y pa b)(o:l<Y.length){i:Nat}{x:String}{p:Bool}{A B:WE}(r:(nms l)[i]?=some x)(s:i<=3)(u:CI (cF J Y (.prog pa b) l) x=p)(w:Pv A H m (.ref (L.sc (J l).f)))(y:Pv B H m (ni l))(q:∀I,aD H I->R (.bool p) I):
  AC X (d+4) "is_constant" A (Ac (Ax (Ai X (d+4) (G "_law_names") (Ac B Ag)) (Ae (.int i))) Ag) H m R:=by
 have j:=h.t.lt o;refine Ad (h.const (d:=d+1) (x:=x) c (h.f o)) fun f z n=>w _ ⟨f,z,CW (Cp (Ao (d:=d+3) (e₂:=1) (AG y) (Fq (d:=d+3) g (YT j) fun nl a=>Af (v:=ni i) _ ⟨.str x,.list (U.ak ..) (ge _) (r63 (ab s (dd rfl))) ?_,?_⟩) (ai _)))⟩
 ·refine Z (eS ..) (Z (b9) (Z r ?_));rfl
 ·rw[<-cu,u]at n;rw[cu]at n;exact(n _ (aD.set a) _ fun I e=>q I ((aD.set a).trans e)).calls
theorem Acz(c:Code X G k)(g:Bj X G la ns)(h:L2 k H0 H L D J Y pa b)(p:l<Y.length){i s u v w x j m:V}(q:∀I,aD H I->BL X (d+4) G I [.ref (L.sc (J l).f),.ref rl,ni l,i,s,u,.bool (Mine.Lake.named Y l),v,w,x,j,m,.aa,.aa,.aa,.aa,.aa] Q):
  BF X (d+4) G H [.ref (L.sc (J l).f),.ref rl,ni l,i,s,u,.bool (Mine.Lake.named Y l),v,w,x,j,m,.aa,.aa,.aa,.aa,.aa] Q:=by
 have z:CI (cF J Y (.prog pa b) l) (bx "s" l)=true:=by rw[CQ (by rw[sG h.t p (ai l)])];rfl
 have A:CI (cF J Y (.prog pa b) l) (bx "v" l)=false:=by rw[CQ (by rw[Vh h.t p (ai l)])];rfl
 have a:∀n,aD H n->∀K:Bool->U->Prop,(∀e,aD n e->K false e)->Bq (Av (AC X (d+4) "is_constant" (O 0) (Ac (Ax (Ai X (d+4) (G "_law_names") (Ac (O 2) Ag)) (Ae (.int 1))) Ag))) A7 n [.ref (L.sc (J l).f),.ref rl,ni l,i,s,u,.bool (Mine.Lake.named Y l),v,w,x,j,m,.aa,.aa,.aa,.aa,.aa] K:=fun n r K B=>
  eE (PB c g (h.ext r) p rfl (dd rfl) A (Aa rfl rfl) (Aa rfl rfl) fun e o=>⟨false,rfl,gF (HY (B e o))⟩)
 cases y:Mine.Lake.named Y l with
 |false=>
  rw[y]at a q;exact fO (Hx (A0 (AJ (Aa rfl rfl))) (a H (aD.refl H) _ fun e o=>gF (q e o)))
 |true=>
  rw[y]at a q;exact fO (eE (KL (AJ (Aa rfl rfl)) (PB c g h p rfl (dd rfl) z (Aa rfl rfl) (Aa rfl rfl) fun n r=>⟨true,rfl,gF (gF (a n r _ fun e o=>gF (q e (r.trans o))))⟩)))
theorem xZ(c:Code X G k)(g:Bj X G la ns)(h:L2 k H0 H L D J Y pa b)(hl:l<Y.length){a10 a11:V}(q:∀I m',aD H I->Q (.ret (.bool true)) I m'):
  BL X (d+1) G H [.ref (L.sc (J l).f),.ref rl,ni l,ul',a4,a5,a6,a7,a8,a9,a10,a11,.aa,.aa,.aa,.aa,.aa] Q:=by
 have hl6:=h.t.lt hl;have o:=Os (x:="arguments") (h.t.len l hl);refine Ad (h.an.st.fn _ _ (h.f hl) rfl) fun f ef zf=>aV (h.lst c (h.f hl) rfl (j:=.aF) (dd rfl)) fun v1 v2=>aV (h.lst c (h.f hl) rfl (j:=.aM) (dd rfl)) fun w1 w2=>?_;have ev:Er L (gH J Y pa b) (fT J Y l) .aF=[.str (bx "v" l)]:=by
  show((((Cw (A5 (fB J Y l))).map T.bZ++aF (fB J Y l)).foldl AE []).map V.str)=_;rw[o.fd,show aF (fB J Y l)=[bx "v" l]by unfold aF;rw[o.vs];rfl];rfl
 have ew:Er L (gH J Y pa b) (fT J Y l) .aM=[]:=by
  show cI (Cw (A5 (fB J Y l)))=_;rw[o.fd];rfl
 rw[ev]at v2;rw[ew]at w2;refine Bh (OI (K6 (Am (Aa (v:=.ref (L.sc (J l).f)) rfl rfl) v1) (Co (CW (Cp (Ao (d:=d) (e₂:=1) (AG (Aa rfl rfl)) (Fq (d:=d) g (YT hl6) fun nl hnl=>Af (v:=ni 1) _ ⟨.str (bx "v" l),.list (U.ak ..) (dd rfl) (dd rfl) rfl,⟨(dd rfl:1<=aT),fun r hr=>⟨true,?_,⟨true,rfl,lL ?_⟩⟩⟩⟩) (ai _)))))))
 ·rw[GK,DI,show((H.set nl (.list ((nms l).map .str))).set r (.list [.str (bx "v" l)])) (L.ls (fT J Y l).aq .aF)=_ from Ah hr (Ah hnl v2),U.ak];simp[CD,Gx,MI]
 ·have e1:=(aD.set (o:=.list ((nms l).map .str)) hnl).trans (aD.set (o:=.list [.str (bx "v" l)]) hr);refine OI (K6 (Am (Aa (v:=.ref (L.sc (J l).f)) rfl rfl) (c.fS (e1 _ _ ef) (zf.lst .aM (dd rfl)) rfl rfl)) (AX A4 (bq _) fun r2 hr2=>⟨true,?_,⟨true,rfl,lL ?_⟩⟩))
  ·rw[GK,DI,show(((H.set nl (.list ((nms l).map .str))).set r (.list [.str (bx "v" l)])).set r2 (.list [])) (L.ls (fT J Y l).aq .aM)=_ from Ah hr2 (e1 _ _ w2),U.ak];rfl
  ·have e2:=e1.trans (aD.set (o:=.list []) hr2);exact Eu (Am (Aa (v:=.ref (L.sc (J l).f)) rfl rfl) (c.fS (e2 _ _ ef) zf.sort rfl rfl)) Af (show Bv X.cm _ .Eq (.str "function") (.str "function")=some true from rfl) _ (q _ _ e2)
variable{ul:Addr}{ps:List Addr}
theorem M2(c:Code X G k)(g:Bj X G la ns)(h:L2 k H0 H L D J Y pa b)(a:l<Y.length)(e:bL H rl Y)(o:cT H ul (Aw Y Y 0) ps){Q:V->U->Prop}(q:∀I,aD H I->Q (.bool true) I):aG X (d+5) H (G "_law_level_right") [.ref (L.sc (J l).f),.ref rl,ni l,.ref ul] Q:=
 g.mj.call rfl (xW c g h a o fun N Ab p=>xT c g (h.ext p) a (o.ext p) fun P A=>have j:=p.trans A
  zc c g (h.ext j) a (e.kp j.kp) (o.ext j) fun R n S T B C E=>have r:=j.trans B
  wR c g (h.ext r) a C E (AeB c g (h.ext r) a fun AH F=>have i:=r.trans F
  yL c g (h.ext i) a (zO c (h.ext i) a (e.kp i.kp) (AcO c g (h.ext i) a fun aj H'=>have u:=i.trans H'
  yz c g (h.ext u) a fun W ws ad v=>have w:=u.trans ad
  wA c g (h.ext w) a v fun rL x=>have y:=w.trans x
  Ac6 c g (h.ext y) a (x _ _ v) fun H8 K=>have s:=y.trans K
  Acz c g (h.ext s) a fun H9 z=>xZ c g (h.ext (s.trans z)) a fun xs m t=>q _ ((s.trans z).trans t)))))
noncomputable def hB(v:Bool)(ea na va:Addr):List T:=.expr ea (.name na "s")::(if v then[.var va "s" none]else[])
def hF(v:Bool)(ea na va fa:Addr):T:=.func fa (some "s") (if v then["q"]else["s"]) (hB v ea na va) false false
theorem DE(v:Bool)(ea na va fa:Addr):(hF v ea na va fa).names=(if v then["q","s"]else["s"])/\(hF v ea na va fa).bM=none/\(hF v ea na va fa).args=false:=by
 cases v
 ·exact⟨rfl,rfl,rfl⟩
 ·exact⟨rfl,rfl,rfl⟩
variable{v:Bool}
theorem aD.bF(e:aD H I){N a:Addr}{b:String}{ps:List V}(n:bh N H a b ps):bh N I a b ps:=e.base.bF n
theorem Ab0(c:Code X G k){fa:Addr}{t:T}{a1:V}(ht:Rep k.N H t)(q:∀I e2 pa,aD H I->Rep k.N I (.prog pa [.expr e2 t])->t.aq≠pa->Bi X (d+2) G I [.bool v,a1,rf t,.ref pa,.aa,.aa,.aa,.aa] Q):
  BI X (d+2) G H [.bool v,a1,rf t,.aa,.aa,.aa,.aa,.aa] Q:=by
 refine AL (FN (Co (CW (KO c (cy 2 d) (AG (Aa (v:=rf t) rfl rfl)) (dd rfl:1<=aT) fun H1 e2 p1 n1=>⟨(dd rfl:1<=aT),fun bl hbl=>Af (v:=.bool false) _ (BB c (cy 2 d) (dd rfl:2<=aT) fun H2 pa p2 n2=>?_)⟩))));have e1:=aD.set (o:=.list [.ref e2]) hbl;have e12:=e1.trans n2.ext;exact Ad ht.at fun f ef y=>q H2 e2 pa (n1.ext.trans e12) ⟨bl,n2.is,n2.ext _ _ (U.ak ..),⟨e12.bF n1.is,ht.ext (n1.ext.trans e12)⟩,trivial⟩ fun z=>jd ((e1 _ _ (n1.ext _ _ ef)).symm.trans (z▸n2.fa))
theorem uD(c:Code X G k){bl ea na va:Addr}(hb:H bl=some (.list (cI (hB v ea na va))))(rb:bA k.N H (hB v ea na va))(q:∀I a1 a2 fa e2 pa,aD H I->Rep k.N I (.prog pa [.expr e2 (hF v ea na va fa)])->fa≠pa->Bi X (d+2) G I [.bool v,a1,a2,.ref pa,.aa,.aa,.aa,.aa] Q):
  C2 X (d+2) G H [.bool v,.ref bl,.aa,.aa,.aa,.aa,.aa,.aa] Q:=by
 have fin:∀H1 pl,aD H H1->H1 pl=some (.list ((if v then["q"]else["s"]).map .str))->M9 (.list [.str "s",.ref pl,.ref bl,.bool false,.str "expr"]) 5 H1 fun x H=>Calls X (d+2) H (G "Node") [.str "Function",.int 1,x] fun x I=>BI X (d+2) G I ([.bool v,.ref bl,.aa,.aa,.aa,.aa,.aa,.aa].set 2 x) Q:=fun H1 pl e1 hpl=>
  BB c (cy 2 d) (dd rfl:5<=aT) fun H2 fa p n=>by
   have e2:=e1.trans n.ext;have R:Rep k.N H2 (hF v ea na va fa):=⟨pl,bl,n.is,n.ext _ _ hpl,e2 _ _ hb,rb.ext e2⟩
   exact Ab0 (fa:=fa) (t:=hF v ea na va fa) c R fun H3 ex pa e3 r3 ne=>q H3 _ _ fa ex pa (e2.trans e3) r3 ne
 have t:cP (Av (O 0)) H [.bool v,.ref bl,.aa,.aa,.aa,.aa,.aa,.aa] v:=AJ (Aa rfl rfl);refine AL (FN (Af (v:=.str "s") _ ?_));cases v with
 |true=>exact Ev t (AX (AG Af) (dd rfl:1<=aT) fun pl hpl=>Aa (v:=.ref bl) rfl rfl _ (Af _ (Af _ (fin _ pl (aD.set hpl) (U.ak ..)))))|false=>exact Es t (AX (AG Af) (dd rfl:1<=aT) fun pl hpl=>Aa (v:=.ref bl) rfl rfl _ (Af _ (Af _ (fin _ pl (aD.set hpl) (U.ak ..)))))
theorem Ace(c:Code X G k)(g:Bj X G la ns)(q:∀I a1 a2 ea na va fa e2 pa,aD H I->Rep k.N I (.prog pa [.expr e2 (hF v ea na va fa)])->fa≠pa->Bi X (d+2) G I [.bool v,a1,a2,.ref pa,.aa,.aa,.aa,.aa] Q):
  Ck X (d+2) G H [.bool v,.aa,.aa,.aa,.aa,.aa,.aa,.aa] Q:=by
 refine AL (JN (Co (CW (FN (CW (KO c (cy 2 d) (AG Af) (dd rfl:1<=aT) fun H1 na p1 n1=>BB c (cy 2 d) (dd rfl:1<=aT) fun H2 ea p2 n2=>⟨(dd rfl:1<=aT),fun l1 hl1=>(JN (Co (CW (FN (CW (Co (CW (bV (AD Af Af) (dd rfl:2<=aT) fun tp htp=>⟨(dd rfl:1<=aT),fun dl hdl=>BB c (cy 2 d) (dd rfl:1<=aT) fun H5 va p5 n5=>⟨(dd rfl:1<=aT),fun l2 hl2=>?_⟩⟩))))))))⟩))))));refine Gb (AG (Aa (v:=.bool v) rfl rfl)) (by
  refine Z g.mZ (Jx (.qG l2 [.ref va] v rfl rfl rfl (U.ak ..) (show 1<=1000 by decide) fun l3 hl3=>KM (M:=[.ref ea]) (ys:=if v then[.ref va]else[]) ?_ (U.ak ..) ?_ fun bl hbl=>?_))
  ·exact Ah hl3 (Ah hl2 (n5.ext _ _ (Ah hdl (Ah htp (U.ak ..)))))
  ·cases v with
   |false=>exact(dd rfl:1<=aT)|true=>exact(dd rfl:2<=aT)
  ·have e2:=aD.set (o:=.list [.ref ea]) hl1;have e3:=aD.set (o:=.tup [.str "s",.none]) htp;have e4:=aD.set (o:=.list [.ref tp]) hdl;have e6:=((aD.set (o:=.list [.ref va]) hl2).trans (aD.set (o:=.list (if v then[.ref va]else[])) hl3)).trans (aD.set (o:=.list ([.ref ea]++if v then[.ref va]else[])) hbl);have e56:=n5.ext.trans e6;have e16:=((e2.trans e3).trans e4).trans e56;refine uD (v:=v) (ea:=ea) (na:=na) (va:=va) c ?_ ?_ fun I a1 a2 fa x pa e r ne=>q I a1 a2 ea na va fa x pa (((n1.ext.trans n2.ext).trans e16).trans e) r ne
   ·refine Z (U.ak ..) ?_;cases v<;>rfl
   ·have r1:Rep k.N _ (T.expr ea (.name na "s")):=⟨e16.bF n2.is,(n2.ext.trans e16).bF n1.is⟩
    cases v with
    |false=>exact⟨r1,trivial⟩|true=>exact⟨r1,⟨dl,tp,e6.bF n5.is,e56 _ _ (U.ak ..),e56 _ _ (e4 _ _ (U.ak ..)),fun b hb=>gU hb⟩,trivial⟩)
variable{ES:List (List T)}{US:List (List T×String)}{ea na va fa x:Addr}
noncomputable def qJ:U:=fun z=>none
theorem aG.frame{f:V}{c:List V}{Q Q':V->U->Prop}(h:aG X d qJ f c Q)(t:∀v I,Q v I->Q' v H):aG X d H f c Q':=fun l m n p=>by
 refine⟨(h l m n p).1,fun A g s B R=>?_⟩;have u:∀a,¬(AY s.heap qJ a\/False):=fun a z=>z.elim (fun z=>z.elim (fun z=>z rfl) fun j=>Cb j fun x C f e Y=>gU e) id;have F:RH X g s qJ:=⟨R.good,R.keep,fun a o e=>gU e,fun a z=>absurd (.inl z) (u a),fun x C f G e=>gU e,fun x y C D f k G e=>gU e,R.gens,R.drawn,R.os⟩
 obtain⟨H',K⟩:=F.grow (fun Y=>False) fun Y q=>q.elim;refine iA ((h l m n p).2 A _ s B H') fun r ad z=>?_;cases r with
 |error e=>exact z.elim|ok fl=>cases fl with
  |ret w=>
   obtain⟨b,I,r,i,q⟩:=z;have E:=R.extend (t:=ad.toks) fun b o e=>i.keep b o (Z (C6 (u b)) e);exact⟨b,H,r,⟨E.good,E.keep,E.own,E.new,E.lE,E.inj,i.gens,i.drawn,i.os⟩,t _ _ q⟩
  |_=>exact z.elim
theorem cR.ext(h:cR k H0 H L D ES US)(e:aD H I):cR k H0 I L D ES US:=
 ⟨h.st.ext e,h.rooted,h.base.trans e.base,h.cap,h.aQ,h.cnt,h.lst,fun v a m f=>(h.pp v a m f).keep e.tps,h.iM.imp fun N h=>⟨h.1,h.2.keep e.tps⟩,h.no⟩
def hP(v:Bool)(ea na va fa x pa:Addr):T:=.prog pa [.expr x (hF v ea na va fa)]
def lW(v:Bool)(ea na va fa x pa:Addr):List (List T):=[[hP v ea na va fa x pa],[hF v ea na va fa,hP v ea na va fa x pa]]
def nq(v:Bool)(ea na va fa x pa:Addr):List (List T×String):=([hF v ea na va fa,hP v ea na va fa x pa],"s")::(if v then[([hF v ea na va fa,hP v ea na va fa x pa],"s")]else[])
theorem wu:lW v ea na va fa x pa=[hP v ea na va fa x pa]::gr [hP v ea na va fa x pa] [.expr x (hF v ea na va fa)]:=by cases v<;>rfl
theorem yd:nq v ea na va fa x pa=aU [hP v ea na va fa x pa] [.expr x (hF v ea na va fa)]:=by cases v<;>rfl
theorem XV{u:List T×String}(h:u∈nq v ea na va fa x pa):u=([hF v ea na va fa,hP v ea na va fa x pa],"s"):=by
 cases v with
 |false=>exact al.mp h|true=>exact(bg.mp h).elim id al.mp
theorem KW{u:T}{us:List T}(h:u::us∈lW v ea na va fa x pa):(u=hP v ea na va fa x pa/\us=[])\/(u=hF v ea na va fa/\us=[hP v ea na va fa x pa]):=
 (bg.mp h).imp (fun z=>bS z) fun z=>bS (al.mp z)
theorem Ou:hF v ea na va fa::[hP v ea na va fa x pa]∈lW v ea na va fa x pa:=.tail _ (.head _)
theorem XL(b:fa≠pa):DZ (lW v ea na va fa x pa) (nq v ea na va fa x pa):=
 ⟨cr.mpr ⟨fun z=>b (al.mp z).symm,cr.mpr ⟨am,d0⟩⟩,fun u c m=>by
  rcases KW m with⟨e,a⟩|⟨e,a⟩<;>rw[e,a]
  ·exact⟨(dd rfl),(dd rfl)⟩
  ·refine Z ((DE ..).1) ?_;cases v<;>exact⟨dd rfl,(dd rfl)⟩,(dd rfl),by
  cases v with
  |false=>exact(dd rfl)|true=>exact(dd rfl)⟩
theorem Uo:Ak [hF v ea na va fa,hP v ea na va fa x pa] "s"=(some ⟨.own,fa,"s"⟩,[]):=by
 refine Bx (B8 ?_);refine Z ((DE ..).1) ?_;cases v<;>decide
theorem VP(c:Code X G k)(a:Rep k.N H (hP v ea na va fa x pa))(b:fa≠pa){Q:V->U->Prop}(q:∀I L D,cR k H I L D (lW v ea na va fa x pa) (nq v ea na va fa x pa)->Q (aZ L [hP v ea na va fa x pa]) I):aG X (d+32) H (G "analyse") [.ref pa] Q:=
 ND c (XL b) a (by
  cases v with
  |false=>exact(dd rfl)|true=>exact(dd rfl)) wu yd (fun u m=>by
  rcases KW m with⟨e,_⟩|⟨_,e⟩
  ·exact e
  ·exact absurd e.symm (dP _ _)) (fun u f m=>by
  rcases KW m with⟨e,_⟩|⟨e,_⟩<;>rw[e]
  ·exact bq _
  ·cases v<;>exact(dd rfl)) q
theorem YF{u:At}{w:V}{y:Addr}(h:mG X H y u w)(q:R w H):SH X u (.ref y) H R:=by
 cases h with|mk C f b c a d e=>exact⟨y,C,f,rfl,b,c,sV a d,tH a e,by refine Z a ?_;exact q⟩
theorem UF{u:At}{A:WE}(h:A H m fun a b=>SH X u a b R):Aj X u A H m R:=h
theorem Yj{A B:WE}{op:mE}{K:Bool->U->Prop}(h:A H m fun a d=>B d m fun b c=>Rg X op a b c fun k=>K k c):Ap X op A B H m K:=h
theorem Sh:bG (nq v ea na va fa x pa) (lW v ea na va fa x pa) (hF v ea na va fa)=(hF v ea na va fa).names.map fun y=>⟨.own,fa,y⟩:=by
 unfold bG;exact Z (DR (DE ..).2.1) (Z (show CV (lW v ea na va fa x pa) (hF v ea na va fa).aq=[]from rfl) (Z (aS ..) (aS _)))
theorem Zh(d:cR k H0 H L D (lW v ea na va fa x pa) (nq v ea na va fa x pa))(b:BK):D.cap b=false:=by
 cases e:D.cap b with
 |false=>rfl|true=>
  rcases(d.cap b).mp e with⟨u,f,_,c⟩|⟨w,h,g,a,_⟩
  ·rw[XV f,Uo]at c;exact absurd rfl c
  ·rcases KW g with⟨e,_⟩|⟨e,_⟩
   ·rw[e]at a;exact bU a
   ·rw[e,(DE ..).2.2]at a;exact bU a
theorem Zk(a:cR k H0 H L D (lW v ea na va fa x pa) (nq v ea na va fa x pa)):∃n,D.aQ ⟨.own,fa,"s"⟩=some ("local",n):=by
 refine AA (L5 a (b:=⟨.own,fa,"s"⟩) (o:=fa) ⟨_,_,Ou,rfl,rfl,by
  refine Z Sh (Z ((DE ..).1) ?_);cases v with
  |false=>exact .head _|true=>exact .tail _ (.head _)⟩) fun n e=>?_
 rw[Zh a]at e;exact⟨n,e⟩
theorem u9(a:cR k H0 H L D (lW v ea na va fa x pa) (nq v ea na va fa x pa)):D.nl fa=1+if v then 1 else 0:=by
 have:=(a.cnt _ _ Ou rfl).2;rw[Sh,(DE ..).1]at this;refine this.trans ((List.countP_eq_length.mpr fun b z=>by refine Z (Zh a ..) ?_;rfl).trans ?_);refine Z (ac ..) ?_;cases v<;>rfl
theorem Adf(c:Code X G k)(g:Bj X G la ns)(a:cR k H0 H L D (lW v ea na va fa x pa) (nq v ea na va fa x pa)){j l m:V}{Q:V->U->Prop}(q:∀I,Q (.bool true) I):
  C0 X (d+4) G H [.bool v,j,l,m,.ref (L.sc fa),.aa,.aa,.aa] fun fl I Z=>Q fl.val I:=by
 refine Ad (a.st.fn _ _ Ou rfl) fun f A B=>?_;have p:∀{H},Pv (O 4) H [.bool v,j,l,m,.ref (L.sc fa),.aa,.aa,.aa] (.ref (L.sc fa)):=Aa rfl rfl;have F:Pv (Ai X (d+4) (G "int") (Ac (O 0) Ag)) H [.bool v,j,l,m,.ref (L.sc fa),.aa,.aa,.aa] (.int (if v then 1 else 0)):=fun Q H'=>Gb (AG (Aa rfl rfl)) (by rw[g.mZ];exact Jx H');refine Bh (OI (Eu (Am p (c.fS A B.nl rfl rfl)) (HL (Af) F) ?_ _ ⟨true,rfl,lL (ZU (Aa rfl rfl _ ⟨v,rfl,?_⟩))⟩))
 ·rw[show D.nl (hF v ea na va fa).aq=_ from u9 a];cases v<;>rfl
 cases v with
 |true=>exact lL (q H)|false=>
  refine AA (Zk a) fun n s=>Ad a.iM fun N R ad=>Ad (Vt c a.st a.rooted ad Ou (dd rfl) (by rw[Cl (by rw[Uo]) (by rw[Uo]),s];rfl)) fun S t u=>gF (K6 (Am p (c.fS A (B.lst .aA (dd rfl)) rfl rfl)) (Co (CW (Bz (p) t (AG (Af)) (u _ fun i w K xs=>⟨(dd rfl),fun r C=>⟨true,?_,q _⟩⟩) (ai _)))));have Ab:=(a.pp _ _ Ou rfl).all;have E:=K.trans (aD.set (o:=.list [w]) C);have b:=Ab.mono fun Z Z Z z=>z.ext fun Z Z e=>E _ _ e;have h:bw (fun x y=>cC (i.set r (.list [w])) x (D.aQ ⟨.own,fa,y⟩)) [w] ["s"]:=⟨cC.ext (show cC i w (D.aQ ⟨.own,fa,"s"⟩)by rw[s];exact xs) fun Z Z e=>Ah C e,trivial⟩
  have:=Sx (cm:=X.cm) (o:=fun y=>D.aQ ⟨.own,fa,y⟩) (fun y P=>⟨("local",n),by rw[al.mp P];exact s⟩) b h;rw[GK,DI,show(i.set r (.list [w])) (L.ls (hF false ea na va fa).aq .aA)=_ from E _ _ (a.st.ls _ _ Ou rfl .aA (dd rfl)),U.ak];dsimp only;rw[if_pos (b.length.trans h.length.symm),show DU (dK X.cm (i.set r (.list [w])) 7) (D.lst (hF false ea na va fa).aq .aA) [w]=_ from this]
theorem Adh(c:Code X G k)(g:Bj X G la ns)(an:cR k H0 H L D (lW v ea na va fa x pa) (nq v ea na va fa x pa)){a1 a2 a3:V}{Q:V->U->Prop}(q:∀I,Q (.bool true) I):
  C1 X (d+4) G H [.bool v,a1,a2,a3,.ref (L.sc fa),.aa,.aa,.aa] fun fl I z=>Q fl.val I:=by
 refine Ad (an.st.fn _ _ Ou rfl) fun f ef zf=>?_;have p4:∀{H},Pv (O 4) H [.bool v,a1,a2,a3,.ref (L.sc fa),.aa,.aa,.aa] (.ref (L.sc fa)):=Aa rfl rfl;have es:f .aH=.none:=by rw[zf.self,(DE ..).2.1]
 have ps:Pv (Hb X (d+4) (G "Scope") (G "Scope_self_place") (O 4)) H [.bool v,a1,a2,a3,.ref (L.sc fa),.aa,.aa,.aa] .none:=fun Q q=>p4 _ ⟨d+3,_,k.S,f,rfl,c.gS,rfl,ef,g.oJ.call rfl (Bh (Ev (aB (Am (Aa rfl rfl) (c.fS ef es rfl rfl)) Af rfl) ⟨rfl,q⟩))⟩;refine Ad (M1 (d:=d+1) c an.st (x:="s") Ou (dd rfl:1<=20)) fun fc hfc hqc=>?_;rw[CQ (by rw[Uo])]at hqc;refine fO (Hx (aB ps Af rfl) (eE (Bz (d:=d+1) (e₂:=3) p4 hfc (AG (Af (v:=.str "s"))) (hqc _ fun H1 e1=>⟨false,rfl,gF (eE (Yj (Cp ?_)))⟩) (ai _))));have an1:=an.ext e1;refine AA (Zk an) fun n hn=>Ad an1.iM fun N hN hC=>Ad (Vt (d:=d) c an1.st an1.rooted hC (x:="s") Ou (dd rfl:1<=20) (M:=[.str "local",.int n]) (by rw[Cl (by rw[Uo]) (by rw[Uo]),hn];rfl)) fun fm hfm hqm=>Bz (d:=d) (e₂:=4) p4 hfm (AG (Af (v:=.str "s"))) (hqm _ fun H2 w e2 hw=>Ad hw fun p zq1 hp=>?_) (ai _);subst zq1;exact⟨.str "local",.tup hp (dd rfl) (dd rfl) rfl,⟨false,rfl,gF (HY (gF (Adf c g (an1.ext e2) q)))⟩⟩
theorem QP(c:Code X G k)(g:Bj X G la ns){Q:V->U->Prop}(q:Q (.bool true) H):aG X (d+33) H (G "_law_hidden_right") [.bool v] Q:=by
 have b:aG X (d+33) qJ (G "_law_hidden_right") [.bool v] fun v y=>v=.bool true:=by
  refine g.hidden.call rfl (Ace (d:=d+30) c g fun m n o ea na va fa x pa y h i=>AL (Cp (UF (Ao (d:=d) (e₂:=32) (AG (Aa (v:=.ref pa) rfl rfl)) (VP (d:=d) c h i fun p L D a=>Ad (a.st.fn _ _ (.head _) rfl) fun f j l=>YF (c.fS j (l.lst .aL (dd rfl)) rfl rfl) (Af (v:=.int 0) _ ⟨.ref (L.sc fa),.list (a.st.ls _ _ (.head _) rfl .aL (dd rfl)) (dd rfl) (dd rfl) (Z (a.lst _ _ (.head _) rfl .aL (dd rfl)) ?_),Adh (d:=d+28) (Q:=fun v y=>v=.bool true) c g a fun y=>rfl⟩)) (ai _)))));have:Dj (lW v ea na va fa x pa) (hP v ea na va fa x pa).aq=[[hF v ea na va fa,hP v ea na va fa x pa]]:=by
   unfold Dj lW;exact Z (iF (fun z=>bU z)) (Z (iE (show W2 (hP v ea na va fa x pa).aq [hF v ea na va fa,hP v ea na va fa x pa]=true from beq_self_eq_true pa)) (Z qE rfl))
  show((Dj (lW v ea na va fa x pa) (hP v ea na va fa x pa).aq).map (aZ L))[0]?=_;refine Z this ?_;rfl
 exact b.frame fun v y e=>by refine Z e ?_;exact q
theorem Base.kp{N:Addr}(e:Base N H I):Kp H I:=fun a o n h=>e.oth a o h fun f z=>n N f z
theorem uZ(h:0<Y.length):(dO J Y 0).map (T.expr ea)=[T.expr ea (fT J Y 0)]:=congrArg (List.map (T.expr ea)) (Jt h)
theorem Abw(c:Code X G k)(t:eZ J Y)(a:b=(dO J Y 0).map (T.expr ea))(f:(il J Y 0).Nodup)(g:pa∉il J Y 0)(h:Rep k.N H (.prog pa b)){Q:V->U->Prop}(q:∀I L D,L2 k H I L D J Y pa b->Q (.ref (L.sc pa)) I):aG X (d+32) H (G "analyse") [.ref pa] Q:=by
 refine ND (d:=d) (ES:=gH J Y pa b) c (U8 t a f g) h ?_ rfl rfl (fun v m=>?_) (fun v x m=>?_) fun I L D i=>q I L D ⟨i,t,AaI f g,⟨ea,a⟩,Wr a f g⟩
 ·have n:=Mj (e:=ea) (dO J Y 0);have o:=YK t Y.length 0 (df _);have p:=congrArg oi (Jt (J:=J) (l:=0) t.ok.n1);have r:=t.ok.n5;exact Z a (v6 n o p r)
 ·rcases(Dl a).mp m with e|⟨j,s,e|e⟩
  ·exact(bS e).1
  ·refine CL (Ms (J:=J) (Y:=Y) (P:=.prog pa b) (l:=j)) fun u y w=>?_;rw[cu,w]at e;exact absurd (bS e).2.symm (dP _ _)
  ·rw[cu]at e;exact absurd (bS e).2.symm (dP _ _)
 ·rcases(Dl a).mp m with e|⟨j,s,e|e⟩
  ·exact Z ((bS e).1) (bq _)
  ·rw[cu]at e;refine Z ((bS e).1) ?_;show(B5 j (aX Y j)).length<=10000;unfold B5;cases(aX Y j).tw with
   |true=>exact(dd rfl)|false=>exact(dd rfl)
  ·exact Z ((bS e).1) (bq _)
theorem xN(c:Code X G k)(g:Bj X G la ns)(rw':bL H rl Y)(ok:dY Y)(q:∀I H0 L D J pa b,L2 k H0 I L D J Y pa b->bL I rl Y->S1 X (d+33) G I [.ref la,.ref rl,.ref pa,.ref (L.sc pa),.aa,.aa,.aa,.aa,.aa,.aa,.aa,.aa,.aa,.aa,.aa,.aa,.aa,.aa,.aa] Q):
  Si X (d+33) G H [.ref la,.ref rl,.aa,.aa,.aa,.aa,.aa,.aa,.aa,.aa,.aa,.aa,.aa,.aa,.aa,.aa,.aa,.aa,.aa] Q:=by
 refine AA (⟨Y.length-1,Nat.succ_pred_eq_of_pos ok.n1⟩:∃n,n+1=Y.length) fun n hn=>?_;have h5:=ok.n5;have l2:2<=d+33:=ab (dd rfl:2<=33) (cy 33 d);refine AL (FN (Co (CW (FN (CW (Ao (d:=d) (e₁:=n+3) (e₂:=33) (AD (Aa (v:=.ref rl) rfl rfl) (Af (v:=ni 0))) (Q1 c g n (d:=d) (l:=0) rw' ok (yq hn) fun H1 J xs=>BB c l2 (dd rfl:1<=aT) fun H2 ea p2 n2=>⟨(dd rfl:1<=aT),fun bl hbl=>Af (v:=.bool false) _ (BB c l2 (dd rfl:2<=aT) fun H4 pa p4 n4=>?_)⟩) (xm hn h5)))))));have e2:=aD.set (o:=.list [.ref ea]) hbl;have e24:=e2.trans n4.ext;have e14:=n2.ext.trans e24;have hp:pa∉il J Y 0:=fun z=>Ie (n2.ext.trans e2) (xs.fr pa z).2 n4.fa;have R:bA k.N H1 (dO J Y 0):=xs.rep.ext fun a o e=>(Ii e).2;have hf:=Jt (J:=J) (l:=0) ok.n1;rw[show dO J Y 0=_ from hf]at R;have hb:=uZ (J:=J) (ea:=ea) ok.n1;have hR:Rep k.N H4 (.prog pa ((dO J Y 0).map (T.expr ea))):=by
  exact Z hb ⟨bl,n4.is,n4.ext _ _ (U.ak ..),⟨e24.bF n2.is,R.1.ext e14⟩,trivial⟩
 have t:eZ J Y:=⟨ok,fun l hl=>by have:=xs.len l _ (El hl);rw[df]at this;exact this⟩
 exact AL (Ao (d:=d) (e₂:=33) (AG (Aa (v:=.ref pa) rfl rfl)) (Abw (d:=d) c t rfl xs.nd hp hR fun H5 L D h=>q H5 H4 L D J pa _ h ((rw'.kp (xs.ext.trans e14).kp).kp h.an.base.kp)) (dd rfl))
variable{sl:Addr}
theorem L2.root(h:L2 k H0 H L D J Y pa b):D.nl pa=0/\D.nc pa=0/\D.lst pa .aJ=[]:=by
 refine AA h.hb fun ea i=>?_;have m:=h.mem.mpr (.inl rfl);have n:Mine.Lake.bG (aU [T.prog pa b] b) (gH J Y pa b) (.prog pa b)=[]:=by
  unfold Mine.Lake.bG;refine Z (VE h.d i) (Z (DR rfl) ?_);rfl
 have q:=h.an.cnt _ _ m rfl;rw[n]at q;refine⟨q.2,q.1,?_⟩;have o:=List.eq_nil_iff_forall_not_mem.mpr fun p a=>by
  rcases(h.jz.mem p pa).mp a with e|⟨u,r,f,c⟩
  ·exact absurd e am
  ·refine Ad (h.use.mp r) fun z g e=>?_;rw[e]at f c;refine BU (h.hit g f) fun A B C E F s=>?_;rw[show(Ak (cF J Y (.prog pa b) z.l) z.y).2=_ from s]at c;exact Az (gQ.mp c) fun j G v w=>h.d.pf j (aI v (h.lk g).l) w.symm
 refine Ad h.an.iM fun N y x=>?_;have t:=(x.t _ _ m rfl).length;rw[show(T.prog pa b).aq=pa from rfl,h.jz.inv.ln,o]at t;exact gg.mp t
inductive Zz(H:U)(rl pa r sl ul la:Addr)(j:Nat)(H1:U)(m:List V):Prop where
 |mk (a6 a7:V):m=[.ref la,.ref rl,.ref pa,.ref r,.ref sl,.ref ul,a6,a7,.aa,.aa,.aa,.aa,.aa,.aa,.aa,.aa,.aa,.aa,.aa]->aD H H1->Zz H rl pa r sl ul la j H1 m
theorem XH(h:L2 k H0 H L D J Y pa b)(c:Code X G k)(g:l+1<Y.length):∃y,JI L (iZ J Y (.prog pa b) (l+1))=.ref y/\mG X H y .sort (.str (if(aX Y l).wi then "catch" else "function")):=by
 have a:=eP g;show ∃y,JI L (if(aX Y l).wi then tT J Y l::cF J Y (.prog pa b) l else cF J Y (.prog pa b) l)=.ref y/\_;cases(aX Y l).wi with
 |true=>
  exact Ad (h.an.st.ca _ _ (h.tr a) rfl) fun f d e=>⟨_,rfl,c.fC d e.sort rfl rfl⟩
 |false=>
  exact Ad (h.an.st.fn _ _ (h.f a) rfl) fun f d e=>Z (if_neg ax) (Z (if_neg ax) (Z cu ⟨_,rfl,c.fS d e.sort rfl rfl⟩))
theorem wy(c:Code X G k)(h:L2 k H0 H L D J Y pa b)(r:l<Y.length)(x:bL H rl Y)(S:I8 H L J sl Y.length){g n o:V}(q:Q .next H [.ref la,.ref rl,g,n,.ref sl,o,ni l,.ref (L.sc (J l).f),.aa,.aa,.aa,.aa,.aa,.aa,.aa,.aa,.aa,.aa,.aa]):
  Tb X (d+33) G H [.ref la,.ref rl,g,n,.ref sl,o,ni l,.ref (L.sc (J l).f),.aa,.aa,.aa,.aa,.aa,.aa,.aa,.aa,.aa,.aa,.aa] Q:=by
 have xs:=h.t.ok.n5;have t:cP (Ap X .Gt (O 6) (Ae (.int 0))) H [.ref la,.ref rl,g,n,.ref sl,o,ni l,.ref (L.sc (J l).f),.aa,.aa,.aa,.aa,.aa,.aa,.aa,.aa,.aa,.aa,.aa] (decide (0<l)):=aB (Aa rfl rfl) (Af (v:=ni 0)) (Ru X.cm l 0);cases l with
 |zero=>exact Bs (A0 t) (BJ (A0 t) q)|succ l=>
  have a:=eP r;refine Ad (h.an.st.fn _ _ (h.f r) rfl) fun f T AH=>Ad (XH h c r) fun y z aj=>?_;have C:Pv (Aj X .parent (O 7)) H [.ref la,.ref rl,g,n,.ref sl,o,ni (l+1),.ref (L.sc (J (l+1)).f),.aa,.aa,.aa,.aa,.aa,.aa,.aa,.aa,.aa,.aa,.aa] (.ref y):=Am (Aa (v:=.ref (L.sc (J (l+1)).f)) rfl rfl) (c.fS T (AH.parent.trans z) rfl rfl);have N:Pv (A1 .Sub (O 6) (Ae (.int 1))) H [.ref la,.ref rl,g,n,.ref sl,o,ni (l+1),.ref (L.sc (J (l+1)).f),.aa,.aa,.aa,.aa,.aa,.aa,.aa,.aa,.aa,.aa,.aa] (ni l):=by
   have:=OM (A:=O 6) (B:=Ae (.int 1)) (H:=H) (m:=[.ref la,.ref rl,g,n,.ref sl,o,ni (l+1),.ref (L.sc (J (l+1)).f),.aa,.aa,.aa,.aa,.aa,.aa,.aa,.aa,.aa,.aa,.aa]) (i:=((l+1:Nat):Int)) (j:=1) (Aa rfl rfl) Af;rw[show(((l+1:Nat):Int)-1)=(l:Int)by exact Int.sub_eq_iff_eq_add.mpr rfl]at this;exact this
  have w:=AJ (c:=(aX Y l).wi) (RC (y:="within") (v:=.bool (aX Y l).wi) x a xs (Aa rfl rfl) N (fun u=>.inl rfl) (dd rfl));have ps:Pv (je (Av (Ax (Ax (O 1) (A1 .Sub (O 6) (Ae (.int 1)))) (Ae (.str "within")))) (Ae (.str "catch")) (Ae (.str "function"))) H [.ref la,.ref rl,g,n,.ref sl,o,ni (l+1),.ref (L.sc (J (l+1)).f),.aa,.aa,.aa,.aa,.aa,.aa,.aa,.aa,.aa,.aa,.aa] (.str (if(aX Y l).wi then "catch" else "function")):=by
   cases e:(aX Y l).wi with
   |true=>rw[e]at w;exact Mo w Af
   |false=>rw[e]at w;exact MK w Af
  have E:∀s:String,Bv X.cm H .NotEq (.str s) (.str s)=some false:=fun s=>by
   refine Z Dv (Z MI (Z (decide_eq_true rfl) ?_));rfl
  refine Bs (bH t (A0 (aB (Am C aj) ps (E _)))) (CL (Ms (J:=J) (Y:=Y) (P:=.prog pa b) (l:=l+1)) fun u F H'=>?_);have Ab:=h.an.st.pure.lY _ u F (H'▸h.f r);rw[H']at z;refine Ad (Hy (d:=d+12) c h.an.st h.an.rooted 21 u F Ab (cv (h.len Ab))) fun rL ad p=>Ad (h.an.st.fn _ _ (h.f a) rfl) fun ff K M=>?_;have W:=(V.ref.inj z).symm;rw[W]at C;have ws:gY (u::F)=(J l).f:=by refine Z (ap H') ?_;exact Ik
  rw[ws]at p;exact BJ (bH t (A0 (aB (SM (d:=d+12) (e₁:=21) (e₂:=21) C ad (fun R q=>p R q) (ai _)) (Gf (Aa (v:=.ref sl) rfl rfl) S N (K4 (sl:=sl) a) (Xx xs a)) (OY K c.jb)))) q
end
section
variable{k:fW}{H0 H I:U}{L:Loc}{D:cD}{J:Nat->iy}{Y:List Row}{pa ea:Addr}{b:List T}{l d:Nat}{X:Cx}{G:String->V}{la:Addr}{ns:List Int}{rl sl ul r:Addr}{ps:List Addr}{Q:V->U->Prop}
theorem uU(c:Code X G k)(g:Bj X G la ns)(h:L2 k H0 H L D J Y pa b)(hl:l<Y.length)(rw':bL H rl Y)(hs:I8 H L J sl Y.length)(hu:cT H ul (Aw Y Y 0) ps){a2 a3:V}{Q:bu->U->List V->Prop}(q:∀I,aD H I->Q .next I [.ref la,.ref rl,a2,a3,.ref sl,.ref ul,ni l,.ref (L.sc (J l).f),.aa,.aa,.aa,.aa,.aa,.aa,.aa,.aa,.aa,.aa,.aa]):
  SO X (d+33) G H [.ref la,.ref rl,a2,a3,.ref sl,.ref ul,ni l,.ref (L.sc (J l).f),.aa,.aa,.aa,.aa,.aa,.aa,.aa,.aa,.aa,.aa,.aa] Q:=fO (eE (Ao (BD (Aa rfl rfl) (BD (Aa rfl rfl) (AD (Aa rfl rfl) (Aa rfl rfl)))) (M2 (d:=d+28) c g h hl rw' hu fun H1 e1=>⟨true,rfl,gF (aV ((h.ext e1).aN c hl) fun f1 f2=>Hx (aB (C9 c (Am (Aa (v:=.ref (L.sc (J l).f)) rfl rfl) f1) f2 (dd rfl:1<=aT)) Af rfl) (HY (gF (wy c (h.ext e1) hl (rw'.kp e1.kp) (e1 _ _ hs) (q H1 e1)))))⟩) (ai _)))
theorem wY(c:Code X G k)(g:Bj X G la ns)(h:L2 k H0 H L D J Y pa b)(f:bL H rl Y)(e:I8 H L J sl Y.length)(o:cT H ul (Aw Y Y 0) ps)(q:∀I,Q (.bool true) I):
  Sq X (d+33) G H [.ref la,.ref rl,.ref pa,.ref r,.ref sl,.ref ul,.aa,.aa,.aa,.aa,.aa,.aa,.aa,.aa,.aa,.aa,.aa,.aa,.aa] fun fl I z=>Q fl.val I:=by
 refine Lz (Aa (v:=.ref sl) rfl rfl) e (AW (Zz H rl pa r sl ul la) ?_ ?_ ⟨_,_,rfl,aD.refl H⟩)
 ·rintro j x l m i ⟨p,s,rfl,a⟩;have n:j<Y.length:=by
   have:=(av.mp i).1;rw[ac,fo]at this;exact this
  rw[K4 (L:=L) (J:=J) (sl:=sl) n]at i;exact Z (ap (ag i)) ⟨a _ _ e,_,rfl,fun K t z=>uU c g (h.ext a) n (f.kp a.kp) (a _ _ e) (o.ext a) fun w u=>t _ _ ⟨_,_,rfl,a.trans u⟩⟩
 ·rintro l m ⟨p,s,rfl,a⟩;exact⟨a _ _ e,jQ (A9 (Af (v:=.bool true)) (q l))⟩
theorem yw(c:Code X G k)(g:Bj X G la ns)(h:L2 k H0 H L D J Y pa b)(a:bL H rl Y)(e:I8 H L J sl Y.length)(f:cT H ul (Aw Y Y 0) ps)(q:∀I,Q (.bool true) I):
  SK X (d+33) G H [.ref la,.ref rl,.ref pa,.ref r,.ref sl,.ref ul,.aa,.aa,.aa,.aa,.aa,.aa,.aa,.aa,.aa,.aa,.aa,.aa,.aa] fun fl I z=>Q fl.val I:=
 fO (eE (Ao (AG (Af)) (QP c g ⟨true,rfl,gF (eE (Ao (AG (Af)) (QP c g ⟨true,rfl,gF (HY (gF (wY c g h a e f q)))⟩) (ai _)))⟩) (ai _)))
theorem yg(c:Code X G k)(g:Bj X G la ns)(h:L2 k H0 H L D J Y pa b)(a:bL H rl Y)(j:I8 H L J sl Y.length)(r:cT H ul (Aw Y Y 0) ps)(q:∀I,Q (.bool true) I):
  Sv X (d+33) G H [.ref la,.ref rl,.ref pa,.ref (L.sc pa),.ref sl,.ref ul,.aa,.aa,.aa,.aa,.aa,.aa,.aa,.aa,.aa,.aa,.aa,.aa,.aa] fun fl I t=>Q fl.val I:=by
 have s:=h.t.ok.n5;refine Ad a.ex fun A o e=>Ad (h.an.st.fn _ _ (h.f h.t.ok.n1) rfl) fun f u w=>Ad (h.an.st.fn _ _ (h.mem.mpr (.inl rfl)) rfl) fun B p t=>?_;have x:Pv (Ai X (d+33) (G "len") (Ac (O 4) Ag)) H [.ref la,.ref rl,.ref pa,.ref (L.sc pa),.ref sl,.ref ul,.aa,.aa,.aa,.aa,.aa,.aa,.aa,.aa,.aa,.aa,.aa,.aa,.aa] (.int Y.length):=by
  have:=C9 (d:=d+33) (m:=[.ref la,.ref rl,.ref pa,.ref (L.sc pa),.ref sl,.ref ul,.aa,.aa,.aa,.aa,.aa,.aa,.aa,.aa,.aa,.aa,.aa,.aa,.aa]) c (Aa (i:=4) (v:=.ref sl) rfl rfl) j (sz (Z (ac ..) (Z fo (Zt s))));rw[ac,fo]at this;exact this
 have y:Pv (Ai X (d+33) (G "len") (Ac (O 1) Ag)) H [.ref la,.ref rl,.ref pa,.ref (L.sc pa),.ref sl,.ref ul,.aa,.aa,.aa,.aa,.aa,.aa,.aa,.aa,.aa,.aa,.aa,.aa,.aa] (.int Y.length):=by
  have:=C9 (d:=d+33) (m:=[.ref la,.ref rl,.ref pa,.ref (L.sc pa),.ref sl,.ref ul,.aa,.aa,.aa,.aa,.aa,.aa,.aa,.aa,.aa,.aa,.aa,.aa,.aa]) c (Aa (i:=1) (v:=.ref rl) rfl rfl) o (sz (Z (ac ..) (Z e.length (Zt s))));rw[ac,e.length]at this;exact this
 have z:Pv (Aj X .parent (Ax (O 4) (Ae (.int 0)))) H [.ref la,.ref rl,.ref pa,.ref (L.sc pa),.ref sl,.ref ul,.aa,.aa,.aa,.aa,.aa,.aa,.aa,.aa,.aa,.aa,.aa,.aa,.aa] (.ref (L.sc pa)):=Am (BR (n:=0) (Aa (v:=.ref sl) rfl rfl) j (K4 (sl:=sl) h.t.ok.n1) rfl) (c.fS u w.parent rfl rfl);exact fO (Hx (aB x y (Rm X.cm rfl)) (Hx (aB z (Aa (v:=.ref (L.sc pa)) rfl rfl) (OY p c.jb)) (eE (Ao (d:=d+9) (e₂:=24) (AD (Aa (v:=.ref sl) rfl rfl) (Aa (v:=.ref ul) rfl rfl)) (OA (d:=d+9) c g h j r fun C l=>⟨true,rfl,gF (HY (gF (yw c g (h.ext l) (a.kp l.kp) (l _ _ j) (r.ext l) q)))⟩) (ai _)))))
theorem Acq(c:Code X G k)(g:Bj X G la ns)(h:L2 k H0 H L D J Y pa b)(j:bL H rl Y)(n:I8 H L J sl Y.length)(o:cT H ul (Aw Y Y 0) ps)(q:∀I,Q (.bool true) I):
  Sf X (d+33) G H [.ref la,.ref rl,.ref pa,.ref (L.sc pa),.ref sl,.ref ul,.aa,.aa,.aa,.aa,.aa,.aa,.aa,.aa,.aa,.aa,.aa,.aa,.aa] fun fl I z=>Q fl.val I:=by
 have m:=h.mem.mpr (.inl rfl);refine Ad (h.an.st.fn _ _ m rfl) fun f a e=>Di h.root fun p r s=>?_;have i:∀{H},Pv (O 3) H [.ref la,.ref rl,.ref pa,.ref (L.sc pa),.ref sl,.ref ul,.aa,.aa,.aa,.aa,.aa,.aa,.aa,.aa,.aa,.aa,.aa,.aa,.aa] (.ref (L.sc pa)):=Aa rfl rfl;have l:=h.an.st.ls _ _ m rfl .aJ (dd rfl);rw[show D.lst (T.prog pa b).aq .aJ=[]from s]at l;have t:f .bD=.int (0):=by exact Z e.nl (Z (p) rfl)
 have u:f .bQ=.int (0):=by exact Z e.nc (Z (r) rfl)
 exact Bs (Du (aB (Am i (c.fS a e.sort rfl rfl)) Af rfl) (Du (aB (HL (HL (Am i (c.fS a t rfl rfl)) (Am i (c.fS a u rfl rfl))) (C9 c (Am i (c.fS a (e.lst .aJ (dd rfl)) rfl rfl)) l (bq _))) Af rfl) Ho)) (yg c g h j n o q)
theorem Adb(c:Code X G k)(g:Bj X G la ns)(l:gq X la ns)(w:ns.length<=63)(q:∀I,Q (.bool true) I):aG X (d+34) H (G "law") [.ref la] Q:=by
 refine g.law.call rfl (AL (Ao (d:=d) (e₂:=33) (AG (Aa (v:=.ref la) rfl rfl)) (vK (d:=d) c g l w fun A rl Y B m ok=>xN (d:=d) c g m ok fun C H0 L D J pa b h e=>Fh (Ao (d:=d) (e₂:=33) (AG (Aa (v:=.ref pa) rfl rfl)) (Wc (d:=d) c g h fun x sl s t=>Ao (d:=d) (e₂:=33) (AG (Aa (v:=.ref rl) rfl rfl)) (Rw (d:=d) g (e.kp s.kp) ok fun E ul ps u y z=>fun r n=>?_) (dd rfl)) (dd rfl))) (dd rfl)));have j:=s.trans (u.trans (aD.set (o:=.tup [.ref sl,.ref ul]) n));have p:I8 x L J sl Y.length:=by
  rw[show(fun i=>aZ L (cF J Y (.prog pa b) i))=fun i=>.ref (L.sc (J i).f)from funext fun i=>congrArg (fun a=>V.ref (L.sc a)) Zi]at t;exact t
 exact Acq c g (h.ext j) (e.kp j.kp) (Ah n (u _ _ p)) (cT.ext ⟨y,z⟩ (aD.set n)) q
end
end Mine.Lake
end
section
open PySem PySem.W PySem.Calls PyProof.Rows
set_option tactic.hygienic false
namespace Mine.Lake
noncomputable def toS(x:Str):String:=q5 (x.cps.toList.map Char.ofNat)
section
variable{W:Type}
noncomputable abbrev xC(c:Bool)(z w:W):W:=@Bool.rec (fun y=>W) z w c
noncomputable abbrev xO{α:Type}(o:Option α)(z:W)(f:α->W):W:=@Option.rec α (fun y=>W) z f o
noncomputable abbrev xL{α:Type}(l:List α)(n:W)(f:α->List α->W):W:=@gc α (fun z=>W) l n f
abbrev x1{α:Type}(l:List α)(z:W)(f:α->W):W:=xL l z fun a r=>xL r (f a) fun y y=>z
abbrev xS(y:Str)(z:W)(f:String->W):W:=xC (ae (toS y)==y) z (f (toS y))
abbrev xA(y:Str)(z:W)(f:At->W):W:=xO (At.all.find? fun a=>a.s==y) z f
noncomputable abbrev k1{a:Type}(z:W):a->W:=fun y=>z
noncomputable abbrev k2{a b:Type}(z:W):a->b->W:=fun y y=>z
noncomputable abbrev k3{a b c:Type}(z:W):a->b->c->W:=fun y y y=>z
noncomputable abbrev k4{a b c d:Type}(z:W):a->b->c->d->W:=fun y y y y=>z
noncomputable abbrev k5{a b c d e:Type}(z:W):a->b->c->d->e->W:=fun y y y y y=>z
noncomputable abbrev k7{a b c d e f g:Type}(z:W):a->b->c->d->e->f->g->W:=fun y y y y y y y=>z
noncomputable abbrev k10{a b c d e f g h i j:Type}(z:W):a->b->c->d->e->f->g->h->i->j->W:=fun y y y y y y y y y y=>z
noncomputable abbrev k11{a b c d e f g h i j k:Type}(z:W):a->b->c->d->e->f->g->h->i->j->k->W:=fun y y y y y y y y y y y=>z
abbrev xx(e:PySem.Expr)(z:W)(fN:Str->Pos->W)(fC:Const->Nat->Pos->W)(fU:UnaryOp->PySem.Expr->Pos->W)(zT:List PySem.Expr->Nat->Pos->W)(zL:PySem.Expr->List lf->Scope->Pos->W)(zS:Option PySem.Expr->Option PySem.Expr->Option PySem.Expr->Pos->W)(fA:PySem.Expr->Str->Pos->W)(fK:PySem.Expr->List PySem.Expr->List q3->Pos->W):W:=@PySem.Expr.casesOn (fun y=>W) e (k3 z) (k3 z) (k4 z) (fU) (k4 z) (k4 z) (k3 z) (k3 z) (zL) (k4 z) (k5 z) (k4 z) (k2 z) (k2 z) (k2 z) (k4 z) (fK) (k4 z) (k2 z) (fC) (fA) (k3 z) (k2 z) (fN) (k2 z) (zT) (zS)
abbrev Mg(e:PySem.Expr)(z:W)(fN:Str->Pos->W):W:=xx e z fN (k3 z) (k3 z) (k3 z) (k4 z) (k4 z) (k3 z) (k4 z)
abbrev Ww(e:PySem.Expr)(z:W)(fC:Const->Nat->Pos->W):W:=xx e z (k2 z) fC (k3 z) (k3 z) (k4 z) (k4 z) (k3 z) (k4 z)
abbrev tW(e:PySem.Expr)(z:W)(fU:UnaryOp->PySem.Expr->Pos->W):W:=xx e z (k2 z) (k3 z) fU (k3 z) (k4 z) (k4 z) (k3 z) (k4 z)
abbrev rT(e:PySem.Expr)(z:W)(zT:List PySem.Expr->Nat->Pos->W):W:=xx e z (k2 z) (k3 z) (k3 z) zT (k4 z) (k4 z) (k3 z) (k4 z)
abbrev tX(e:PySem.Expr)(z:W)(zL:PySem.Expr->List lf->Scope->Pos->W):W:=xx e z (k2 z) (k3 z) (k3 z) (k3 z) zL (k4 z) (k3 z) (k4 z)
abbrev tZ(e:PySem.Expr)(z:W)(zS:Option PySem.Expr->Option PySem.Expr->Option PySem.Expr->Pos->W):W:=xx e z (k2 z) (k3 z) (k3 z) (k3 z) (k4 z) zS (k3 z) (k4 z)
abbrev su(e:PySem.Expr)(z:W)(fN:Str->Pos->W)(fA:PySem.Expr->Str->Pos->W):W:=xx e z fN (k3 z) (k3 z) (k3 z) (k4 z) (k4 z) fA (k4 z)
abbrev xCA(e:PySem.Expr)(z:W)(fK:PySem.Expr->List PySem.Expr->List q3->Pos->W)(fA:PySem.Expr->Str->Pos->W):W:=xx e z (k2 z) (k3 z) (k3 z) (k3 z) (k4 z) (k4 z) fA fK
def KU(e:PySem.Expr):Bool:=@PySem.Expr.casesOn (fun z=>Bool) e (k3 false) (k3 false) (fun z z z z=>true) (k3 false) (k4 false) (k4 false) (k3 false) (k3 false) (k4 false) (k4 false) (k5 false) (k4 false) (k2 false) (k2 false) (k2 false) (k4 false) (fun z z z z=>true) (k4 false) (k2 false) (k3 false) (fun z z z=>true) (fun z z z=>true) (k2 false) (fun z z=>true) (k2 false) (k3 false) (k4 false)
theorem Mr{e:PySem.Expr}(h:KU e=true):∀env x,d3 e env x=pure x:=by
 revert h;exact @PySem.Expr.casesOn (fun e=>KU e=true->∀env x,d3 e env x=pure x) e (fun z z z h=>bU h) (fun z z z h=>bU h) (fun z z z z z z z=>rfl) (fun z z z h=>bU h) (fun z z z z h=>bU h) (fun z z z z h=>bU h) (fun z z z h=>bU h) (fun z z z h=>bU h) (fun z z z z h=>bU h) (fun z z z z h=>bU h) (fun z z z z z h=>bU h) (fun z z z z h=>bU h) (fun z z h=>bU h) (fun z z h=>bU h) (fun z z h=>bU h) (fun z z z z h=>bU h) (fun z z z z z z z=>rfl) (fun z z z z h=>bU h) (fun z z h=>bU h) (fun z z z h=>bU h) (fun z z z z z z=>rfl) (fun z z z z z z=>rfl) (fun z z h=>bU h) (fun z z z z z=>rfl) (fun z z h=>bU h) (fun z z z h=>bU h) (fun z z z z h=>bU h)
theorem Bl{P:W->Prop}{c:Bool}{z w:W}(a:P z)(h:c=true->P w):P (xC c z w):=by
 cases c
 ·exact a
 ·exact h rfl
theorem Ce{P:W->Prop}{c:Bool}{z w:W}(a:P w)(h:c=false->P z):P (xC c z w):=by
 cases c
 ·exact h rfl
 ·exact a
theorem LQ{b:Type}{P:W->Prop}{o:Option b}{z:W}{f:b->W}(c:P z)(h:∀a,o=some a->P (f a)):P (xO o z f):=by
 cases o
 ·exact c
 ·exact h _ rfl
theorem PD{P:Str->W->Prop}{y:Str}{z:W}{f:String->W}(a:P y z)(h:∀s,P (ae s) (f s)):P y (xS y z f):=
 Bl a fun e=>mN (motive:=fun q=>P q (f (toS y))) (i5 e) (h (toS y))
theorem Vr{P:Str->W->Prop}{y:Str}{z:W}{f:At->W}(b:P y z)(h:∀a:At,P a.s (f a)):P y (xA y z f):=
 LQ b fun a e=>mN (motive:=fun q=>P q (f a)) (i5 (List.find?_some (p:=fun a:At=>a.s==y) e)) (h a)
section
variable{P:PySem.Expr->W->Prop}{e:PySem.Expr}{z:W}
theorem J8{b:Str->Pos->W}{c:Const->Nat->Pos->W}{d:UnaryOp->PySem.Expr->Pos->W}{f:List PySem.Expr->Nat->Pos->W}{g:PySem.Expr->List lf->Scope->Pos->W}{h:Option PySem.Expr->Option PySem.Expr->Option PySem.Expr->Pos->W}{i:PySem.Expr->Str->Pos->W}{j:PySem.Expr->List PySem.Expr->List q3->Pos->W}(a:P e z)(m:∀x p,e=.Name x p->P e (b x p))(n:∀x k p,e=.Constant x k p->P e (c x k p))(o:∀x k p,e=.UnaryOp x k p->P e (d x k p))(q:∀x k p,e=.Tuple x k p->P e (f x k p))(r:∀x k s p,e=.ListComp x k s p->P e (g x k s p))(t:∀x k s p,e=.Slice x k s p->P e (h x k s p))(u:∀x k p,e=.Attribute x k p->P e (i x k p))(v:∀x k s p,e=.Call x k s p->P e (j x k s p)):P e (xx e z b c d f g h i j):=@PySem.Expr.casesOn (fun l=>e=l->P e (xx l z b c d f g h i j)) e (fun y y y y=>a) (fun y y y y=>a) (fun y y y y y=>a) (o) (fun y y y y y=>a) (fun y y y y y=>a) (fun y y y y=>a) (fun y y y y=>a) (r) (fun y y y y y=>a) (fun y y y y y y=>a) (fun y y y y y=>a) (fun y y y=>a) (fun y y y=>a) (fun y y y=>a) (fun y y y y y=>a) (v) (fun y y y y y=>a) (fun y y y=>a) (n) (u) (fun y y y y=>a) (fun y y y=>a) (m) (fun y y y=>a) (q) (t) rfl
theorem fZ{b:Str->Pos->W}(a:P e z)(c:∀x p,P (.Name x p) (b x p)):P e (Mg e z b):=J8 a (fun x p q=>q.symm▸c x p) (fun y y y y=>a) (fun y y y y=>a) (fun y y y y=>a) (fun y y y y y=>a) (fun y y y y y=>a) (fun y y y y=>a) (fun y y y y y=>a)
theorem KQ{b:Const->Nat->Pos->W}(a:P e z)(c:∀x k p,P (.Constant x k p) (b x k p)):P e (Ww e z b):=J8 a (fun y y y=>a) (fun x k p q=>q.symm▸c x k p) (fun y y y y=>a) (fun y y y y=>a) (fun y y y y y=>a) (fun y y y y y=>a) (fun y y y y=>a) (fun y y y y y=>a)
theorem AaP{b:UnaryOp->PySem.Expr->Pos->W}(a:P e z)(c:∀x k p,P (.UnaryOp x k p) (b x k p)):P e (tW e z b):=J8 a (fun y y y=>a) (fun y y y y=>a) (fun x k p q=>q.symm▸c x k p) (fun y y y y=>a) (fun y y y y y=>a) (fun y y y y y=>a) (fun y y y y=>a) (fun y y y y y=>a)
theorem Su{b:List PySem.Expr->Nat->Pos->W}(a:P e z)(c:∀x k p,P (.Tuple x k p) (b x k p)):P e (rT e z b):=J8 a (fun y y y=>a) (fun y y y y=>a) (fun y y y y=>a) (fun x k p q=>q.symm▸c x k p) (fun y y y y y=>a) (fun y y y y y=>a) (fun y y y y=>a) (fun y y y y y=>a)
theorem Yo{b:PySem.Expr->List lf->Scope->Pos->W}(a:P e z)(c:∀x k s p,P (.ListComp x k s p) (b x k s p)):P e (tX e z b):=J8 a (fun y y y=>a) (fun y y y y=>a) (fun y y y y=>a) (fun y y y y=>a) (fun x k s p q=>q.symm▸c x k s p) (fun y y y y y=>a) (fun y y y y=>a) (fun y y y y y=>a)
theorem wH{b:Option PySem.Expr->Option PySem.Expr->Option PySem.Expr->Pos->W}(a:P e z)(c:∀x k s p,P (.Slice x k s p) (b x k s p)):P e (tZ e z b):=J8 a (fun y y y=>a) (fun y y y y=>a) (fun y y y y=>a) (fun y y y y=>a) (fun y y y y y=>a) (fun x k s p q=>q.symm▸c x k s p) (fun y y y y=>a) (fun y y y y y=>a)
theorem VM{b:Str->Pos->W}{c:PySem.Expr->Str->Pos->W}(a:P e z)(d:∀x p,P (.Name x p) (b x p))(f:∀x k p,P (.Attribute x k p) (c x k p)):P e (su e z b c):=J8 a (fun x p q=>q.symm▸d x p) (fun y y y y=>a) (fun y y y y=>a) (fun y y y y=>a) (fun y y y y y=>a) (fun y y y y y=>a) (fun x k p q=>q.symm▸f x k p) (fun y y y y y=>a)
theorem yr{b:PySem.Expr->List PySem.Expr->List q3->Pos->W}{c:PySem.Expr->Str->Pos->W}(a:P e z)(d:∀x k s p,P (.Call x k s p) (b x k s p))(f:∀x k p,P (.Attribute x k p) (c x k p)):P e (xCA e z b c):=J8 a (fun y y y=>a) (fun y y y y=>a) (fun y y y y=>a) (fun y y y y=>a) (fun y y y y y=>a) (fun y y y y y=>a) (fun x k p q=>q.symm▸f x k p) (fun x k s p q=>q.symm▸d x k s p)
end
theorem Hg{b:Type}{P:List b->W->Prop}{l:List b}{z:W}{f:b->W}(c:P l z)(h:∀a,P [a] (f a)):P l (x1 l z f):=by
 cases l with
 |nil=>exact c|cons a r=>cases r with
  |nil=>exact h a|cons _ _=>exact c
abbrev NK:=List (Str×ce)
def oG(x:Str):NK->Option (Nat×ce):=@fq (Str×ce) (fun z=>Option (Nat×ce)) none fun a z b=>xC (a.1==x) (xO b none fun p=>some (p.1+1,p.2)) (some (0,a.2))
variable{sc:NK}
theorem Mq{x:Str}:∀{p:Nat×ce},oG x sc=some p->sc[p.1]?=some (x,p.2):=by
 induction sc with
 |nil=>intro p h;cases h
 |cons a l b=>
  intro p h;change xC (a.1==x) (xO (oG x l) none fun p=>some (p.1+1,p.2)) (some (0,a.2))=some p at h;cases q:(a.1==x)with
  |true=>
   rw[q]at h;obtain rfl:=i5 q;obtain rfl:=ag h;rfl
  |false=>
   rw[q]at h;cases e:oG x l with
   |none=>rw[e]at h;cases h
   |some c=>
    rw[e]at h;obtain rfl:=ag h;exact b e
abbrev qm(own:Bool)(sc:NK)(x:Str)(z:W)(f:Nat->W):W:=xO (oG x sc) z fun p=>@kq (fun y=>W) p.2 (f p.1) (xC own z (f p.1)) z z z
def pJ(own:Bool)(sc:NK)(es:List PySem.Expr):(z:W)->(f:List Nat->W)->W:=@fq PySem.Expr (fun y=>W->(List Nat->W)->W) (fun y f=>f []) (fun e y a z f=>Mg e z fun x y=>qm own sc x z fun i=>a z fun is=>f (i::is)) es
abbrev qN(own:Bool)(sc:NK)(t:PySem.Expr)(z:W)(f:(Nat->V->U->List V->Option (List V))->W):W:=@PySem.Expr.casesOn (fun y=>W) t (k3 z) (k3 z) (k4 z) (k3 z) (k4 z) (k4 z) (k3 z) (k3 z) (k4 z) (k4 z) (k5 z) (k4 z) (k2 z) (k2 z) (k2 z) (k4 z) (k4 z) (k4 z) (k2 z) (k3 z) (k3 z) (k3 z) (k2 z) (fun x y=>qm own sc x z fun i=>f (AB i)) (k2 z) (fun es y y=>pJ own sc es z fun is=>f (Bc is)) (k4 z)
theorem O4{own:Bool}{x:Str}{P:W->Prop}{z:W}{f:Nat->W}(a:P z)(h:∀i b,sc[i]?=some (x,b)->(b=.local\/(b=.cell/\own=true))->P (f i)):P (qm own sc x z f):=
 LQ a fun p e=>by
  have c:=Mq e;obtain⟨i,k⟩:=p;cases k
  ·exact h _ _ c (.inl rfl)
  ·exact Bl a fun o=>h _ _ c (.inr ⟨rfl,o⟩)
  ·exact a
  ·exact a
  ·exact a
theorem lX{own:Bool}{P:List PySem.Expr->W->Prop}:∀{es:List PySem.Expr} {z:W} {f:List Nat->W},(P es z)->(∀is,J2 own sc es is->P es (f is))->P es (pJ own sc es z f)
 |es=>by
  suffices ∀{Q:W->Prop} {z:W} {f:List Nat->W},Q z->(∀is,J2 own sc es is->Q (f is))->Q (pJ own sc es z f)from fun a h=>this (Q:=P es) a h
  induction es with
  |nil=>exact fun y h=>h _ VU
  |cons e es b=>
   intro Q z f a h;exact fZ (P:=fun e w=>(∀is,J2 own sc (e::es) is->Q (f is))->Q w) (fun y=>a) (fun x p h=>O4 a fun i j c d=>b a fun is g=>h _ (Uk c d g)) h
theorem WF{own:Bool}{P:PySem.Expr->W->Prop}{t:PySem.Expr}{z:W}{f:(Nat->V->U->List V->Option (List V))->W}(a:P t z)(h:∀b,eH own sc t b->P t (f b)):P t (qN own sc t z f):=@PySem.Expr.casesOn (fun c=>t=c->P t (qN own sc c z f)) t (fun y y y y=>a) (fun y y y y=>a) (fun y y y y y=>a) (fun y y y y=>a) (fun y y y y y=>a) (fun y y y y y=>a) (fun y y y y=>a) (fun y y y y=>a) (fun y y y y y=>a) (fun y y y y y=>a) (fun y y y y y y=>a) (fun y y y y y=>a) (fun y y y=>a) (fun y y y=>a) (fun y y y=>a) (fun y y y y y=>a) (fun y y y y y=>a) (fun y y y y y=>a) (fun y y y=>a) (fun y y y y=>a) (fun y y y y=>a) (fun y y y y=>a) (fun y y y=>a) (fun x p q=>O4 a fun i j d e=>h _ (q▸Qb d e)) (fun y y y=>a) (fun es k p q=>lX (P:=fun y w=>P t w) a fun is g=>h _ (q▸Rf g)) (fun y y y y y=>a) rfl
def zE:WE:=fun z z z=>False
def zT:WT:=fun z z z=>False
def zL:WL:=fun z z z=>False
def zI:WI:=fun z z z=>False
def zS:WS:=fun z z z=>False
def tY(f:PySem.Stmt->WS):List PySem.Stmt->WS:=@fq PySem.Stmt (fun z=>WS) AU fun s a b=>xL a (f s) fun z z=>az (f s) b
variable(X:Cx)(d:Nat)(G:String->V)(gs:List Str)(AH:Nat->WE->WE)(aj:Str->Option (V×V))
section
variable(r:PySem.Expr->WE)(sc:NK)
def lR:List PySem.Expr->WL:=@fq PySem.Expr (fun z=>WL) Ag fun e z a=>xC (eB e) (Ac (r e) a) zL
def bR(op:BoolOp):List PySem.Expr->WE:=@fq PySem.Expr (fun z=>WE) zE fun e es a=>xL es (r e) fun z z=>@BoolOp.casesOn (fun z=>WE) op (IE (r e) a) (pN (r e) a)
abbrev WD:=U->List V->(List (String×V)->U->Prop)->Prop
def dR:List (Option PySem.Expr)->List PySem.Expr->(WD->WE)->WE:=@fq (Option PySem.Expr) (fun z=>List PySem.Expr->(WD->WE)->WE) (fun a f=>xL a (f P3) fun z z=>zE)
 fun k z b a f=>xL a zE fun v a=>xO k zE fun k=>Ww k zE fun c z z=>@ox (fun z=>WE) c zE (fun z=>zE) (fun z=>zE) (fun z=>zE) (fun z z=>zE) (fun y=>xS y zE fun s=>b a fun B=>f (Ft s (r v) B)) (fun z=>zE) zE
def tR:Nat->PySem.Expr->WT:=@mS (fun z=>PySem.Expr->WT) (fun z=>zT) fun z b e=>@PySem.Expr.casesOn (fun z=>WT) e (fun a es z=>@BoolOp.casesOn (fun z=>WT) a (@fq PySem.Expr (fun z=>WT) AI (fun e z is=>AP (b e) is) es) (@fq PySem.Expr (fun z=>WT) A7 (fun e z is=>Bq (b e) is) es)) (k3 zT) (k4 zT) (fun a e z=>@pT (fun z=>WT) a zT (FL (b e)) zT zT) (k4 zT) (k4 zT) (k3 zT) (k3 zT) (k4 zT) (k4 zT) (k5 zT) (k4 zT) (k2 zT) (k2 zT) (k2 zT) (fun l c d z=>x1 c zT fun a=>x1 d zT fun q=>xC (lb a q) (Ap X a (r l) (r q)) zT) (fun z z z z=>Av (r e)) (k4 zT) (k2 zT) (k3 zT) (fun z z z=>Av (r e)) (fun z z z=>Av (r e)) (k2 zT) (fun z z=>Av (r e)) (k2 zT) (k3 zT) (k4 zT)
def iR(e:PySem.Expr):WI:=@PySem.Expr.casesOn (fun z=>WI) e (k3 (Au (r e))) (k3 (Au (r e))) (k4 (Au (r e))) (k3 (Au (r e))) (k4 (Au (r e))) (k4 (Au (r e))) (k3 (Au (r e))) (k3 (Au (r e))) (k4 (Au (r e))) (k4 (Au (r e))) (k5 (Au (r e))) (k4 (Au (r e))) (k2 (Au (r e))) (k2 (Au (r e))) (k2 (Au (r e))) (k4 (Au (r e))) (fun f es b p=>Mg f (Au (r (.Call f es b p))) fun x c=>x1 es (Au (r (.Call (.Name x c) es b p))) fun a=>xL b
 (xC (eB a) (xC (x==ae "reversed") (xC (x==ae "range") (Au (r (.Call (.Name x c) [a] [] p))) (xC (sc.lookup (ae "range")==some uj) zI (GT (r a)))) (xC (sc.lookup (ae "reversed")==some uj) zI (Nr (r a)))) zI)
 fun k b=>Au (r (.Call (.Name x c) [a] (k::b) p))) (k4 (Au (r e))) (k2 (Au (r e))) (k3 (Au (r e))) (k3 (Au (r e))) (k3 (Au (r e))) (k2 (Au (r e))) (k2 (Au (r e))) (k2 (Au (r e))) (k3 (Au (r e))) (k4 (Au (r e)))
abbrev uf(o i:PySem.Expr):WE:=tZ i (xC (F8 i) zE (Ax (r o) (r i))) fun lo up st z=>xO lo
 (xO up (xO st zE fun q=>tW q zE fun op c z=>@pT (fun z=>WE) op zE zE zE (Ww c zE fun k z z=>@ox (fun z=>WE) k zE (fun z=>zE) (fun i=>xC (decide (i=1)) zE (Ct (r o))) (fun z=>zE) (fun z z=>zE) (fun z=>zE) (fun z=>zE) zE))
  fun u=>xO st (Ww u zE fun k z z=>@ox (fun z=>WE) k zE (fun z=>zE) (fun i=>@Int.casesOn (fun z=>WE) i (fun n=>AH n (r o)) fun z=>zE) (fun z=>zE) (fun z z=>zE) (fun z=>zE) (fun z=>zE) zE) fun z=>zE)
 fun l=>xO up (xO st (Ww l (K1 (r o) (r l)) fun c k p=>Pu (r o) (r (.Constant c k p))) fun z=>zE) fun z=>zE
abbrev ZP(f:PySem.Expr)(es:List PySem.Expr)(ks:List q3)(p:Pos):WE:=xL ks (xC (es.all fun e=>!isStarred e) zE (su f zE (fun x z=>xS x zE fun s=>xC (sc.lookup (ae s)==some uj) zE (Ai X d (G s) (lR r es)))
 fun o y p'=>xS y zE fun s=>xC (B2 o) zE (xC (decide (es.length<30)) zE (xC (p'.endLine==p.line) zE (AC X d s (r o) (lR r es)))))) fun z z=>zE
abbrev um(c:Const):WE:=@ox (fun z=>WE) c (Ae .none) (fun b=>Ae (.bool b)) (fun i=>Ae (.int i)) (fun z=>zE) (fun z z=>zE) (fun y=>xS y zE fun s=>Ae (.str s)) (fun z=>zE) zE
abbrev t7(x:Str):WE:=xO (oG x sc) zE fun p=>@kq (fun z=>WE) p.2 (O p.1) (O p.1) (O p.1) zE (xC (sc.lookup x==some uj) zE (xS x zE fun s=>Ae (G s)))
end
abbrev rD{W:Type}(rr:NK->PySem.Expr->WE)(sc:NK)(n:Nat)(elt:PySem.Expr)(gens:List lf)(scope:Scope)(z:W)(f:WE->W):W:=x1 gens z fun g=>xC (decide (g.is_async=0)) z (xC (JM scope sc) z (xC (RT gs (AO scope.names sc)) z (xC (KU g.iter) z
 (qN false (AO scope.names sc) g.target z fun bnd=>xL g.ifs (f (Bm (iR (rr sc) sc g.iter) bnd AI (rr (AO scope.names sc) elt) (Et scope.names sc)))
  fun c cs=>xL cs (f (Bm (iR (rr sc) sc g.iter) bnd (tR X (rr (AO scope.names sc)) n c) (rr (AO scope.names sc) elt) (Et scope.names sc))) fun y y=>z))))
def eR:Nat->NK->PySem.Expr->WE:=@mS (fun z=>NK->PySem.Expr->WE) (fun z z=>zE) fun n g sc e=>@PySem.Expr.casesOn (fun z=>WE) e (fun h es z=>bR (g sc) h es) (k3 zE) (fun l h q z=>A1 h (g sc l) (g sc q)) (fun h e z=>@pT (fun z=>WE) h zE (YM (g sc e)) zE (XD (g sc e))) (k4 zE) (fun t b o z=>je (tR X (g sc) n t) (g sc b) (g sc o)) (fun k r z=>xL k (xL r Q9 fun z z=>zE) fun z z=>xC (decide (k.length=r.length)) zE (xC (decide (k.length<=15)) zE (dR (g sc) k r PZ))) (k3 zE) (fun s m j z=>rD X gs g sc n s m j zE id) (k4 zE) (k5 zE) (k4 zE) (k2 zE) (k2 zE) (k2 zE) (fun l u v z=>x1 u zE fun h=>x1 v zE fun q=>xC (lb h q) (Cu X h (g sc l) (g sc q)) zE) (fun f es k p=>ZP X d G (g sc) sc f es k p) (k4 zE) (k2 zE) (fun c z z=>um c) (fun o y z=>xO (aj y) (xA y zE fun a=>xC (B2 o) zE (Aj X a (g sc o))) fun p=>xC (B2 o) zE (Hb X d p.1 p.2 (g sc o))) (fun o i z=>uf AH (g sc) o i) (k2 zE) (fun x z=>t7 G sc x) (fun es z=>AF (lR (g sc) es)) (fun es z z=>Bg (lR (g sc) es)) (k4 zE)
section
variable(n:Nat)(rr:NK->PySem.Expr->WE)(sc:NK)
def ud(a b u v:PySem.Expr):WS:=Mg a zS fun x c=>Mg b zS fun y d=>
  xO (oG x sc) zS fun p=>@kq (fun z=>WS) p.2 (xO (oG y sc) zS fun q=>@kq (fun z=>WS) q.2 (xC (p.1==q.1) (xC (d.line==c.line) zS (xC (eB u) (xC (eB v) (xC ([u,v].all (qc 8)) (xC ([u,v].all (oT 8)) (Dn p.1 q.1 (rr sc u) (rr sc v)) zS) zS) zS) zS)) zS) zS zS zS zS) zS zS zS zS
abbrev t8(t v:PySem.Expr):WS:=@PySem.Expr.casesOn (fun z=>WS) t (k3 zS) (k3 zS) (k4 zS) (k3 zS) (k4 zS) (k4 zS) (k3 zS) (k3 zS) (k4 zS) (k4 zS) (k5 zS) (k4 zS) (k2 zS) (k2 zS) (k2 zS) (k4 zS) (k4 zS) (k4 zS) (k2 zS) (k3 zS) (fun o y z=>xA y zS fun a=>xC (Cf v) (Aq X a (rr sc v) (rr sc o)) zS) (fun o i z=>xC (Cf v) (Iv (rr sc v) (rr sc o) (rr sc i)) zS) (k2 zS) (fun x p'=>tX v (qm true sc x zS fun i=>xC (Cf v) (Ar i (rr sc v)) zS) fun elt gens scope aaj=>xO (oG x sc) zS fun p=>@kq (fun z=>WS) p.2 (xC (p'.line==aaj.line) zS (xC (scope.names.any fun(n,k)=>n==x&&(k==uk||k==.cell)) (rD X gs rr sc n elt gens scope zS (Ar p.1)) zS)) zS zS zS zS) (k2 zS) (fun es z z=>rT v (pJ true sc es zS fun is=>xC (Cf v) (xC (notTuple v) zS (CR is (rr sc v))) zS) fun vs z z=>xL es zS fun a es=>x1 es zS fun b=>xL vs zS fun u vs=>x1 vs zS fun v=>ud rr sc a b u v) (k4 zS)
abbrev tG(bl:List PySem.Stmt->WS)(t it:PySem.Expr)(b:List PySem.Stmt)(w0:PySem.Expr->WS):WS:=xCA it (w0 it)
 (fun f es ks p=>Mg f (w0 (.Call f es ks p)) fun x p'=>x1 es (w0 (.Call (.Name x p') es ks p)) fun e=>xL ks (xC (x==ae "enumerate") (w0 (.Call (.Name x p') [e] [] p)) (rT t zS fun ts z z=>xC (eB e) (xC (sc.lookup (ae "enumerate")==some uj) zS (pJ true sc ts zS fun is=>xC (decide (is.length=2)) zS (CP (rr sc e) is (bl b)))) zS)) fun k ks=>w0 (.Call (.Name x p') [e] (k::ks) p))
 (fun o y p=>xC (y==ae "own") (w0 (.Attribute o y p)) (Mg t zS fun x z=>qm true sc x zS fun i=>IA (rr sc (.Attribute o y p)) i (bl b)))
def sR(c:List PySem.Stmt->WS)(s:PySem.Stmt):WS:=@PySem.Stmt.casesOn (fun z=>WS) s (k10 zS) (k10 zS) (k11 zS) (fun o z=>xO o zS fun e=>AT (rr sc e)) (k2 zS) (fun g v z=>x1 g zS fun t=>t8 X gs n rr sc t v) (k7 zS) (fun t h v z=>su t zS (fun z z=>zS) fun o y z=>xA y zS fun a=>@Operator.casesOn (fun z=>WS) h (ER X a (rr sc o) (rr sc v)) zS zS zS zS zS zS zS zS zS zS zS zS) (k5 zS) (fun t d b o z=>xL o (tG rr sc c t d b fun d=>xC (KU d) zS (qN true sc t zS fun f=>CG (iR (rr sc) sc d) f (c b))) fun z z=>zS) (k5 zS) (fun t b o z=>xL o (DC (tR X (rr sc) n t) (c b)) fun z z=>zS) (fun t b o z=>bj (tR X (rr sc) n t) (c b) (c o)) (k3 zS) (k3 zS) (k3 zS) (k3 zS) (k5 zS) (k5 zS) (k3 zS) (k2 zS) (k4 zS) (k2 zS) (k2 zS) (fun e z=>xC (Cf e) (wExpr (rr sc e)) zS) (k1 zS) (k1 zS) (k1 zS)
end
def sZ(n:Nat)(sc:NK):Nat->List PySem.Stmt->WS:=@mS (fun z=>List PySem.Stmt->WS) (fun z=>zS) fun z a=>tY (sR X gs n (eR X d G gs AH aj n) sc a)
end
section
variable{X:Cx}{d:Nat}{own:Bool}{sc:NK}{e:PySem.Expr}{p:Pos}
theorem A2:bB X d own sc e zE:=⟨fun z z z z z h=>h.elim⟩
theorem Nt:lA X d own sc e zT:=⟨fun z z z z z h=>h.elim⟩
theorem UN:lg X d own sc e zI:=⟨fun z z z z z h=>h.elim⟩
theorem Adu{es:List PySem.Expr}:nF X d own sc es zL:=⟨fun z z z z z z h=>h.elim⟩
theorem AV{s:PySem.Stmt}:d9 X d own sc s zS:=⟨fun z z z z z h=>h.elim⟩
theorem yK{s:List PySem.Stmt}:lB X d own sc s zS:=⟨fun z z z z z h=>h.elim⟩
theorem JB{q:Prop}[Decidable q](h:decide q=true):q:=of_decide_eq_true h
section
variable{r:PySem.Expr->WE}(h:∀e,bB X d own sc e (r e))
include h
theorem Sl(es:List PySem.Expr):nF X d own sc es (lR r es):=by
 induction es with
 |nil=>exact yt|cons e es a=>exact Ce Adu fun b=>XQ b (h e) a
theorem Ado{op:BoolOp}(es:List PySem.Expr):bB X d own sc (.BoolOp op es p) (bR r op es):=by
 induction es with
 |nil=>exact A2|cons e es b=>cases es with
  |nil=>exact wO (h e)|cons a es=>cases op with
   |And=>exact Z9 (h e) b|Or=>exact vD (h e) b
theorem Acf{P:WE->Prop}(e:P zE):∀(a:List (Option PySem.Expr)) (vs:List PySem.Expr) {f:WD->WE},(∀A,o4 X d own sc a vs A->P (f A))->P (dR r a vs f):=by
 intro a;induction a with
 |nil=>intro vs f b;cases vs with
  |nil=>exact b _ Yp|cons _ _=>exact e
 |cons k a g=>intro vs f b;cases vs with
  |nil=>exact e|cons v vs=>cases k with
   |none=>exact e|some k=>exact KQ (P:=fun k w=>(∀A,o4 X d own sc (some k::a) (v::vs) A->P (f A))->P w) (fun z=>e) (fun c i p b=>by
     cases c with
     |str y=>exact PD (P:=fun y w=>(∀A,o4 X d own sc (some (.Constant (.str y) i p)::a) (v::vs) A->P (f A))->P w) (fun z=>e) (fun s b=>g vs fun A j=>b _ (WJ (h v) j)) b|_=>exact e) b
theorem SU(Ab:CX X)(n:Nat):∀e,lA X d own sc e (tR X r n e):=by
 induction n with
 |zero=>exact fun z=>Nt
 |succ n f=>
  intro e;cases e with
  |Compare l b g p=>exact Hg (P:=fun b w=>lA X d own sc (.Compare l b g p) w) Nt fun c=>Hg (P:=fun g w=>lA X d own sc (.Compare l [c] g p) w) Nt fun q=>Ce Nt fun i=>Xf Ab (h l) (h q) i
  |UnaryOp c e p=>cases c<;>first|exact Nt|exact XT (f e)
  |BoolOp c es p=>
   cases c
   ·refine PR ?_;induction es with
    |nil=>exact OH|cons e es a=>exact VB (f e) a
   ·refine PR ?_;induction es with
    |nil=>exact PG|cons e es a=>exact Yc (f e) a
  |Name=>exact GM (h _) fun z=>rfl
  |Call=>exact GM (h _) fun z=>rfl
  |Attribute=>exact GM (h _) fun z=>rfl
  |Subscript=>exact GM (h _) fun z=>rfl
  |_=>exact Nt
omit h in
theorem I3{x:Str}(e:(sc.lookup x==some uj)=true):sc.lookup x=some uj:=i5 e
theorem Zl{G:String->V}(j:cX X G sc)(e:PySem.Expr):lg X d own sc e (iR r sc e):=by
 cases e with
 |Call f es b p=>
  exact fZ (P:=fun f w=>lg X d own sc (.Call f es b p) w) (F7 (h _)) fun x c=>Hg (P:=fun es w=>lg X d own sc (.Call (.Name x c) es b p) w) (F7 (h _)) fun a=>by
   cases b with
   |cons k b=>exact F7 (h _)|nil=>exact Ce UN fun l=>Bl (Bl (F7 (h _)) fun g=>Bl UN fun i=>mN (motive:=fun x=>lg X d own sc (.Call (.Name x c) [a] [] p) _) (i5 g).symm (Wl j l (I3 i) (h a))) fun g=>Bl UN fun i=>mN (motive:=fun x=>lg X d own sc (.Call (.Name x c) [a] [] p) _) (i5 g).symm (v5 j l (I3 i) (h a))
 |_=>exact F7 (h _)
end
structure Xv(X:Cx)(d:Nat)(AH:Nat->WE->WE):Prop where
 h:∀{own:Bool} {sc:NK} {o:PySem.Expr} {A:WE} (n k:Nat) (p p' aaj:Pos),bB X d own sc o A->bB X d own sc (.Subscript o (.Slice none (some (.Constant (.int (n:Nat)) k aaj)) none p') p) (AH n A)
structure Z0(X:Cx)(d:Nat)(aj:Str->Option (V×V)):Prop where
 h:∀{own:Bool} {sc:NK} {o:PySem.Expr} {A:WE} {y:Str} {q:V×V} (p:Pos),aj y=some q->B2 o=true->bB X d own sc o A->bB X d own sc (.Attribute o y p) (Hb X d q.1 q.2 A)
variable{AH:Nat->WE->WE}{G:String->V}{gs:List String}{aj:Str->Option (V×V)}
section
variable{r:PySem.Expr->WE}(h:∀e,bB X d own sc e (r e))
include h
theorem YH(f:Xv X d AH)(o i:PySem.Expr):bB X d own sc (.Subscript o i p) (uf AH r o i):=by
 refine wH (P:=fun i w=>bB X d own sc (.Subscript o i p) w) (Bl A2 fun g=>AaQ g (h o) (h i)) fun j up st e=>?_;cases j with
 |none=>cases up with
  |none=>cases st with
   |none=>exact A2|some q=>
     refine AaP (P:=fun q w=>bB X d own sc (.Subscript o (.Slice none none (some q) e) p) w) A2 fun m c b=>?_;cases m with
     |USub=>
       refine KQ (P:=fun c w=>bB X d own sc (.Subscript o (.Slice none none (some (.UnaryOp .USub c b)) e) p) w) A2 fun c k a=>?_;cases c with
       |int i=>exact Bl A2 fun s=>mN (motive:=fun i=>bB X d own sc (.Subscript o (.Slice none none (some (.UnaryOp .USub (.Constant (.int i) k a) b)) e) p) (Ct (r o))) (JB s).symm (Z5 (h o))
       |_=>exact A2
     |_=>exact A2
  |some u=>cases st with
   |none=>
     refine KQ (P:=fun u w=>bB X d own sc (.Subscript o (.Slice none (some u) none e) p) w) A2 fun c k a=>?_;cases c with
     |int i=>cases i with
      |ofNat n=>exact f.h n k p e a (h o)|negSucc=>exact A2
     |_=>exact A2
   |some _=>exact A2
 |some l=>cases up with
  |none=>cases st with
   |none=>exact KQ (P:=fun l w=>bB X d own sc (.Subscript o (.Slice (some l) none none e) p) w) (XA (h o) (h l)) fun c k q=>VN (h o) (h _)
   |some _=>exact A2
  |some _=>exact A2
theorem VL(hN:cX X G sc)(f:PySem.Expr)(es:List PySem.Expr)(a:List q3):bB X d own sc (.Call f es a p) (ZP X d G r sc f es a p):=by
 cases a with
 |cons _ _=>exact A2|nil=>
  exact Bl A2 fun c=>VM (P:=fun f w=>bB X d own sc (.Call f es [] p) w) A2
   (fun x b=>PD (P:=fun x w=>bB X d own sc (.Call (.Name x b) es [] p) w) A2 fun s=>Bl A2 fun e=>XU hN c (I3 e) (Sl h es))
   fun o y b=>PD (P:=fun y w=>bB X d own sc (.Call (.Attribute o y b) es [] p) w) A2 fun s=>Bl A2 fun g=>Bl A2 fun i=>Bl A2 fun j=>Yt g c (JB i) j (h o) (Sl h es)
end
theorem Z7{f:PySem.Stmt->WS}(h:∀s,d9 X d own sc s (f s))(ss:List PySem.Stmt):lB X d own sc ss (tY f ss):=by
 induction ss with
 |nil=>exact Xm|cons s ss a=>cases ss with
  |nil=>exact YD (h s)|cons _ _=>exact VH (h s) a
theorem Xj{c:Const}{k:Nat}:bB X d own sc (.Constant c k p) (um c):=by
 cases c with
 |none=>exact X5|bool b=>exact YZ|int i=>exact xf|str s=>exact PD (P:=fun y w=>bB X d own sc (.Constant (.str y) k p) w) A2 fun s=>vA
 |_=>exact A2
theorem yI(hN:cX X G sc){x:Str}:bB X d own sc (.Name x p) (t7 G sc x):=LQ A2 fun q e=>by
 have a:=Mq e;obtain⟨i,k⟩:=q;cases k with
 |«local»=>exact Ry hN a (.inl rfl)|cell=>exact Ry hN a (.inr (.inl rfl))|free=>exact Ry hN a (.inr (.inr rfl))|globalExplicit=>exact A2|globalImplicit=>exact Bl A2 fun b=>PD (P:=fun x w=>sc.lookup x=some uj->bB X d own sc (.Name x p) w) (fun z=>A2) (fun s e=>Yv hN e) (I3 b)
theorem Vi{W:Type}{P:PySem.Expr->W->Prop}{rr:NK->PySem.Expr->WE}{n:Nat}{elt:PySem.Expr}{gens:List lf}{scope:Scope}{z:W}{f:WE->W}(Ab:CX X)(hG:nH X G gs gs)(hr:∀sc own,cX X G sc->∀e,bB X d own sc e (rr sc e))(hN:cX X G sc)(hz:∀e,P e z)
  (h:∀{target iter:PySem.Expr} {ifs:List PySem.Expr} {bnd:Nat->V->U->List V->Option (List V)} {T:WT},JM scope sc=true->RT (gs.map ae) (AO scope.names sc)=true->(∀env x,d3 iter env x=pure x)->lg X d own sc iter (iR (rr sc) sc iter)->eH false (AO scope.names sc) target bnd ->
   (cX X G (AO scope.names sc)->IY X d false (AO scope.names sc) ifs T)->(cX X G (AO scope.names sc)->bB X d false (AO scope.names sc) elt (rr (AO scope.names sc) elt))->P (.ListComp elt [⟨target,iter,ifs,0⟩] scope p) (f (Bm (iR (rr sc) sc iter) bnd T (rr (AO scope.names sc) elt) (Et scope.names sc)))) :
  P (.ListComp elt gens scope p) (rD X (gs.map ae) rr sc n elt gens scope z f):=by
 refine Hg (P:=fun gens w=>P (.ListComp elt gens scope p) w) (hz _) fun g=>?_;obtain⟨t,it,ifs,a⟩:=g;refine Bl (hz _) fun ha=>mN (motive:=fun a=>P (.ListComp elt [⟨t,it,ifs,a⟩] scope p) _) (JB ha).symm (Bl (hz _) fun hO=>Bl (hz _) fun hn=>Bl (hz _) fun hp=>WF (P:=fun t w=>P (.ListComp elt [⟨t,it,ifs,0⟩] scope p) w) (hz _) fun bnd hb=>?_);have key:=fun{T:WT} (hT:cX X G (AO scope.names sc)->IY X d false (AO scope.names sc) ifs T)=>h hO hn (Mr hp) (Zl (hr sc own hN) hN it) hb hT fun hN'=>hr _ _ hN' elt;cases ifs with
 |nil=>exact key fun y=>X3
 |cons c cs=>cases cs with
  |nil=>exact key fun hN'=>YR (SU (hr _ _ hN') Ab n c)
  |cons _ _=>exact hz _
theorem AbJ(Ab:CX X)(hG:nH X G gs gs)(D:Xv X d AH)(E:Z0 X d aj)(n:Nat):∀sc own,cX X G sc->∀e,bB X d own sc e (eR X d G (gs.map ae) AH aj n sc e):=by
 induction n with
 |zero=>exact fun Z Z Z Z=>A2
 |succ n z=>
  intro sc own hN e;have h:=z sc own hN;cases e with
  |BoolOp g es p=>exact Ado h es|BinOp l g q p=>exact yM (h l) (h q)|UnaryOp g e p=>cases g with
   |Not=>exact yD (h e)|USub=>exact Abj (h e)|_=>exact A2
  |IfExp t b o p=>exact vZ (SU h Ab n t) (h b) (h o)|Dict j B p=>cases j with
   |nil=>cases B with
    |nil=>exact Vo|cons _ _=>exact A2
   |cons k j=>exact Bl A2 fun F=>Bl A2 fun H=>Acf h A2 (k::j) B fun A s=>Xg (JB F) rfl (JB H) s
  |ListComp H' C u p=>exact Vi Ab hG z hN (fun Z=>A2) fun ad m K L xs N s=>YL hG ad m K rfl L xs N s
  |Compare l r v p=>exact Hg (P:=fun r w=>bB X d own sc (.Compare l r v p) w) A2 fun g=>Hg (P:=fun v w=>bB X d own sc (.Compare l [g] v p) w) A2 fun q=>Ce A2 fun Q=>uC Ab (h l) (h q) Q
  |Call f es j p=>exact VL h hN f es j|Constant c k p=>exact Xj|Attribute o y p=>exact LQ (Vr (P:=fun y w=>bB X d own sc (.Attribute o y p) w) A2 fun a=>Bl A2 fun m=>Yx Ab m (h o)) fun q e=>Bl A2 fun m=>E.h p e m (h o)
  |Subscript o i p=>exact YH h D o i|Name x p=>exact yI hN|List es p=>exact Xq (Sl h es)|Tuple es k p=>exact wI (Sl h es)|_=>exact A2
section
variable{n:Nat}{rr:NK->PySem.Expr->WE}(Ab:CX X)(hG:nH X G gs gs)(hr:∀sc own,cX X G sc->∀e,bB X d own sc e (rr sc e))(hN:cX X G sc)
include hr hN
theorem ZY{k c:Nat}{e f:Pos}(a b u v:PySem.Expr):d9 X d true sc (.Assign [.Tuple [a,b] k e] (.Tuple [u,v] c f) p) (ud rr sc a b u v):=by
 have h:=hr sc true hN;refine fZ (P:=fun a w=>d9 X d true sc (.Assign [.Tuple [a,b] k e] (.Tuple [u,v] c f) p) w) AV fun x r=>fZ (P:=fun b w=>d9 X d true sc (.Assign [.Tuple [.Name x r,b] k e] (.Tuple [u,v] c f) p) w) AV fun y E=>LQ AV fun q s=>?_;have g:=Mq s;obtain⟨i,t⟩:=q;cases t with
 |«local»=>
  refine LQ AV fun q z=>?_;have l:=Mq z;obtain⟨j,A⟩:=q;cases A with
  |«local»=>exact Ce AV fun m=>Bl AV fun B=>Ce AV fun C=>Ce AV fun n=>Ce AV fun D=>Ce AV fun o=>V2 g l (ne_of_beq_false m) B C n D o (h u) (h v)
  |_=>exact AV
 |_=>exact AV
include Ab hG in
theorem XG(t v:PySem.Expr):d9 X d true sc (.Assign [t] v p) (t8 X (gs.map ae) n rr sc t v):=by
 have h:=hr sc true hN;cases t with
 |Name x c=>
  refine Yo (P:=fun v w=>d9 X d true sc (.Assign [.Name x c] v p) w) (O4 AV fun i xs C D=>Ce AV fun f=>Q3 C D f (h v)) fun E s j z=>LQ AV fun q e=>?_;have F:=Mq e;obtain⟨i,k⟩:=q;cases k with
  |«local»=>exact Bl AV fun G=>Ce AV fun l=>Vi (P:=fun v w=>d9 X d true sc (.Assign [.Name x c] v p) w) Ab hG hr hN (fun Z=>AV) fun H H' ad K m r L=>Vm hG F H H' ad G l rfl K m r L
  |_=>exact AV
 |Attribute o y c=>exact Vr (P:=fun y w=>d9 X d true sc (.Assign [.Attribute o y c] v p) w) AV fun a=>Ce AV fun f=>Pw Ab f (h v) (h o)
 |Subscript o i c=>exact Ce AV fun f=>Qx f (h v) (h o) (h i)
 |Tuple es k c=>
  refine Su (P:=fun v w=>d9 X d true sc (.Assign [.Tuple es k c] v p) w) (lX (P:=fun es w=>d9 X d true sc (.Assign [.Tuple es k c] v p) w) AV fun is r=>Ce AV fun f=>Bl AV fun m=>RP r f m (h v)) fun g A B=>?_;cases es with
  |nil=>exact AV|cons a es=>
   refine Hg (P:=fun es w=>d9 X d true sc (.Assign [.Tuple (a::es) k c] (.Tuple g A B) p) w) AV fun b=>?_;cases g with
   |nil=>exact AV|cons u g=>exact Hg (P:=fun g w=>d9 X d true sc (.Assign [.Tuple [a,b] k c] (.Tuple (u::g) A B) p) w) AV fun v=>ZY hr hN a b u v
 |_=>exact AV
section
variable{bl:List PySem.Stmt->WS}(hb:∀ss,lB X d true sc ss (bl ss))
include hb
theorem YV{l:PySem.Expr->WS}(t a:PySem.Expr)(b:List PySem.Stmt)(c:∀a,d9 X d true sc (.For t a b [] p) (l a)):d9 X d true sc (.For t a b [] p) (tG rr sc bl t a b l):=by
 have h:=hr sc true hN;refine yr (P:=fun a w=>d9 X d true sc (.For t a b [] p) w) (c _) (fun f es j q=>fZ (P:=fun f w=>d9 X d true sc (.For t (.Call f es j q) b [] p) w) (c _) fun x g=>Hg (P:=fun es w=>d9 X d true sc (.For t (.Call (.Name x g) es j q) b [] p) w) (c _) fun e=>?_) fun o y q=>Bl (c _) fun Z=>
  fZ (P:=fun t w=>d9 X d true sc (.For t (.Attribute o y q) b [] p) w) AV fun x g=>O4 AV fun i C m n=>Qf (fun Z Z=>rfl) m n (h _) (hb b)
 cases j with
 |cons _ _=>exact c _|nil=>exact Bl (c _) fun r=>mN (motive:=fun x=>d9 X d true sc (.For t (.Call (.Name x g) [e] [] q) b [] p) _) (i5 r).symm (Su (P:=fun t w=>d9 X d true sc (.For t (.Call (.Name (ae "enumerate") g) [e] [] q) b [] p) w) AV fun s k u=>Ce AV fun v=>Bl AV fun z=>
   lX (P:=fun s w=>d9 X d true sc (.For (.Tuple _ k u) (.Call (.Name (ae "enumerate") g) [e] [] q) b [] p) w) AV fun is A=>Bl AV fun B=>Yf hN (fun Z Z=>rfl) v (I3 z) A (JB B) (h e) (hb b))
include Ab hG in
theorem vp(s:PySem.Stmt):d9 X d true sc s (sR X (gs.map ae) n rr sc bl s):=by
 have h:=hr sc true hN;cases s with
 |Return o p=>cases o with
  |none=>exact AV|some e=>exact X2 (h e)
 |Assign g v p=>exact Hg (P:=fun g w=>d9 X d true sc (.Assign g v p) w) AV fun t=>XG Ab hG hr hN t v
 |AugAssign t f v p=>
   refine VM (P:=fun t w=>d9 X d true sc (.AugAssign t f v p) w) AV (fun z z=>AV) fun o y i=>Vr (P:=fun y w=>d9 X d true sc (.AugAssign (.Attribute o y i) f v p) w) AV fun a=>?_;cases f with
   |Add=>exact Po Ab (h v) (h o)|_=>exact AV
 |Expr e p=>exact Ce AV fun j=>W7 j (h e)
 |If t b o p=>exact vB (SU h Ab n t) (hb b) (hb o)|While t b o p=>cases o with
  |nil=>exact TT (SU h Ab n t) (hb b)|cons _ _=>exact AV
 |For t c b o p=>cases o with
  |nil=>exact YV hr hN hb t c b fun c=>Bl AV fun k=>WF (P:=fun t w=>d9 X d true sc (.For t c b [] p) w) AV fun l m=>X9 (Mr k) (Zl h hN c) m (hb b)
  |cons _ _=>exact AV
 |_=>exact AV
end
end
theorem zB{n:Nat}(Ab:CX X)(hG:nH X G gs gs)(a:Xv X d AH)(b:Z0 X d aj)(hN:cX X G sc)(m:Nat):∀ss,lB X d true sc ss (sZ X d G (gs.map ae) AH aj n sc m ss):=by
 induction m with
 |zero=>exact fun z=>yK
 |succ m c=>exact fun ss=>Z7 (vp Ab hG (AbJ Ab hG a b n) hN c) ss
structure Yr where
 (nm:String) (n u:Nat) (N:NK) (W:Cx->Nat->(String->V)->WS)
noncomputable def pI:List (String×V):=[("Binding",.ref 114),("Binding___init__",.ref 111),("CatchScope",.ref 233),("CatchScope___init__",.ref 202),("CatchScope_binding",.ref 216),("CatchScope_find",.ref 223),("CatchScope_function",.ref 209),("CatchScope_is_constant",.ref 230),("Node",.ref 31),("Node___init__",.ref 28),("Scope",.ref 184),("Scope___init__",.ref 130),("Scope_arguments_place",.ref 180),("Scope_binding",.ref 151),("Scope_declare",.ref 137),("Scope_find",.ref 158),("Scope_function",.ref 144),("Scope_is_constant",.ref 165),("Scope_self_place",.ref 172),("_law_all_uses",.ref 352),("_law_function",.ref 338),("_law_hidden_right",.ref 392),("_law_led",.ref 366),("_law_level_right",.ref 385),("_law_met",.ref 345),("_law_names",.ref 319),("_law_own_place",.ref 373),("_law_plan",.ref 324),("_law_scopes",.ref 359),("_law_use_name",.ref 331),("_law_uses_right",.ref 380),("abs",.blt "abs"),("add_once",.ref 63),("all_scopes",.ref 263),("analyse",.ref 312),("any",.blt "any"),("binding_names",.ref 97),("capture",.ref 305),("enumerate",.typ "enumerate"),("function_decls",.ref 75),("give_place",.ref 284),("give_places",.ref 291),("index_among",.ref 298),("inner_nodes",.ref 49),("int",.typ "int"),("is_self_used",.ref 277),("isinstance",.blt "isinstance"),("last_decls",.ref 80),("law",.ref 399),("len",.blt "len"),("list",.typ "list"),("look_up",.ref 244),("mark_captured",.ref 270),("named_in",.ref 85),("needs_arguments",.ref 90),("nodes_of",.ref 42),("own_nodes",.ref 56),("place_of",.ref 251),("range",.typ "range"),("read_names",.ref 256),("reversed",.typ "reversed"),("set",.typ "set"),("str",.typ "str"),("tuple",.typ "tuple"),("var_names",.ref 70)]
def Dw(x:String):V:=(pI.lookup x).getD .aa
noncomputable def dh:List String:=["Binding","CatchScope","Node","Scope","_law_all_uses","_law_function","_law_hidden_right","_law_led","_law_level_right","_law_met","_law_names","_law_own_place","_law_plan","_law_scopes","_law_use_name","_law_uses_right","abs","add_once","all_scopes","analyse","any","binding_names","capture","enumerate","function_decls","give_place","give_places","index_among","inner_nodes","int","is_self_used","isinstance","last_decls","len","list","look_up","mark_captured","named_in","needs_arguments","nodes_of","own_nodes","place_of","range","read_names","reversed","set","str","tuple","var_names"]
def O8(la:Addr)(ns:List Int):List Yr:=[⟨"Node___init__",4,0,FU,FM⟩,⟨"nodes_of",1,10,Lp,Lq⟩,⟨"inner_nodes",1,1,G3,G6⟩,⟨"own_nodes",1,6,Kh,JU⟩,⟨"add_once",2,0,LC,Mm⟩,⟨"var_names",1,6,JY,J3⟩,⟨"function_decls",1,0,EQ,EV⟩,⟨"last_decls",1,6,Jc,IB⟩,⟨"named_in",2,2,MC,LT⟩,⟨"needs_arguments",2,3,En,DY⟩,⟨"binding_names",2,7,FP,FT⟩,⟨"Binding___init__",3,0,DJ,DM⟩,⟨"Scope___init__",3,6,EO,EC⟩,⟨"Scope_declare",1,4,FY,FW⟩,⟨"Scope_function",1,0,EY,EI⟩,⟨"Scope_binding",2,0,FQ,FF⟩,⟨"Scope_find",2,1,HU,I1⟩,⟨"Scope_is_constant",2,2,Dq,Dp⟩,⟨"CatchScope___init__",3,1,CY,CZ⟩,⟨"CatchScope_function",1,0,C4,C3⟩,⟨"CatchScope_binding",2,0,Df,De⟩,⟨"CatchScope_find",2,1,Ei,Em⟩,⟨"CatchScope_is_constant",2,2,Cn,Cm⟩,⟨"look_up",2,4,Nw,Nl⟩,⟨"place_of",2,7,MJ,LX⟩,⟨"read_names",1,11,IC,Io⟩,⟨"all_scopes",1,4,Ja,Jm⟩,⟨"mark_captured",2,7,FX,FR⟩,⟨"is_self_used",2,3,Go,Gn⟩,⟨"give_place",2,0,HV,Ih⟩,⟨"give_places",2,4,Hj,Hl⟩,⟨"index_among",2,3,G8,Ha⟩,⟨"capture",2,7,NF,Nn⟩,⟨"analyse",1,16,NL,Ni⟩,⟨"_law_names",1,1,Iy,Je⟩,⟨"_law_plan",1,9,Kl,J7 la ns⟩,⟨"_law_use_name",2,1,Fz,Fy⟩,⟨"_law_function",2,14,FJ,FZ⟩,⟨"_law_met",4,0,Ld,LN⟩,⟨"_law_all_uses",1,9,FV,FI⟩,⟨"_law_scopes",1,2,G9,G4⟩,⟨"_law_led",2,2,LD,LV⟩,⟨"_law_own_place",2,3,EK,Fa⟩,⟨"_law_uses_right",2,8,Eo,Ek⟩,⟨"_law_level_right",4,13,DN,Cv⟩,⟨"_law_hidden_right",1,7,Dr,Ck⟩,⟨"law",1,18,Zy,Y8⟩,⟨"Scope_self_place",1,0,DF,DS⟩,⟨"Scope_arguments_place",1,0,CE,CC⟩]
noncomputable def lQ:List Addr:=[31,114,184,233]
noncomputable def in1:List (Addr×Addr):=[(31,28),(114,111),(184,130),(233,202)]
noncomputable def qW:List (Addr×String×Addr):=[(184,"declare",137),(184,"function",144),(184,"binding",151),(184,"find",158),(184,"is_constant",165),(233,"function",209),(233,"binding",216),(233,"find",223),(233,"is_constant",230)]
noncomputable def tQ:List (String×Addr×Addr):=[("self_place",173,172),("arguments_place",181,180)]
def V1:Str->Option (V×V):=fun y=>(tQ.map fun p=>(ae p.1,(V.ref 184,V.ref p.2.2))).lookup y
noncomputable def ty1:List bm:=[.type "NoneType",.type "bool",.type "int",.type "str",.type "list",.type "tuple"]
abbrev Al{α β:Type}(l:List α)(f g:α->β):Prop:=l.map f=l.map g
theorem Al.at{b c:Type}{l:List b}{f g:b->c}(h:Al l f g){a:b}(m:a∈l):f a=g a:=List.map_inj_left.mp h a m
noncomputable def adr(v:V):Addr:=@V.rec (fun z=>Addr) 0 0 (fun z=>0) (fun z=>0) (fun z=>0) (fun a=>a) (fun z=>0) (fun z=>0) v
noncomputable def zQ(d:Data):Option FuncData:=@Data.casesOn (fun z=>Option FuncData) d none (fun z=>none) (fun z z=>none) (fun z z=>none) (fun z z z=>none) (fun z z=>none) (fun z=>none) some (fun z=>none) (fun z=>none) none
def RZ(K:Frag)(a:Addr):Option FuncData:=(K.lookup a).bind fun o=>zQ o.data
theorem Op{K:Frag}{a:Addr}(h:(RZ K a).isSome=true):∃c b sl,K.lookup a=some ⟨c,b,.func ((RZ K a).getD default),sl⟩:=by
 unfold RZ at h ⊢;cases e:K.lookup a with
 |none=>rw[e]at h;exact bU h
 |some o=>
  rw[e]at h;obtain⟨c,b,d,sl⟩:=o;cases d with
  |func f=>exact⟨_,_,_,rfl⟩|_=>exact bU h
theorem PA{K:Frag}{a:Addr}(h:(clsIn K a).isSome=true):∃c b sl,K.lookup a=some ⟨c,b,.cls ((clsIn K a).getD default),sl⟩:=by
 unfold clsIn at h ⊢;cases e:K.lookup a with
 |none=>rw[e]at h;exact bU h
 |some o=>
  rw[e]at h;obtain⟨c,b,d,sl⟩:=o;cases d with
  |cls f=>exact⟨_,_,_,rfl⟩|_=>exact bU h
abbrev HJ(K:Frag)(r:Yr):FuncData:=(RZ K (adr (Dw r.nm))).getD default
noncomputable def XB(b:FuncBody):Bool:=@FuncBody.casesOn (fun z=>Bool) b (fun z=>true) fun z=>false
noncomputable def Yq(r:Yr):List Str:=(r.N.take r.n).map (·.1)
noncomputable def MV(K:Frag)(a:Addr):Obj:=(K.lookup a).getD default
noncomputable def Ic(K:Frag)(C:Addr):ClassData:=(clsIn K C).getD default
def wX(K:Frag)(C:Addr):Obj:=excClassObj (Ic K C).name (Ic K C).qualname C (Ic K C).ns (Ic K C).bases [.type "object"] (Ic K C).hasDict (Ic K C).slotNames (Ic K C).subclasses (Ic K C).abstract (Ic K C).collection (MV K C).dict
 (((MV K C).slots.toList[0]?).getD none) (((MV K C).slots.toList[1]?).getD none) (((MV K C).slots.toList[2]?).getD none) (((MV K C).slots.toList[3]?).getD none) (((MV K C).slots.toList[5]?).getD none) "object.__new__"
noncomputable def Ad6(d:Data):Array DictEntry×Nat:=@Data.casesOn (fun z=>Array DictEntry×Nat) d (#[],0) (fun z=>(#[],0)) (fun z z=>(#[],0)) Prod.mk (fun z z z=>(#[],0)) (fun z z=>(#[],0)) (fun z=>(#[],0)) (fun z=>(#[],0)) (fun z=>(#[],0)) (fun z=>(#[],0)) (#[],0)
def N2(K:Frag)(C:Addr):Array DictEntry×Nat:=Ad6 (MV K (Ic K C).ns).data
noncomputable def RW(v:bm):Bool:=@Value.casesOn (fun z=>Bool) v false false false (fun z=>false) (fun z z=>false) (fun z z=>false) (fun z z=>true) (fun z z=>false) (fun z=>false) (fun z=>false) fun z=>false
theorem TQ{v:bm}(h:RW v=true):∃n t,v=.str n t:=by
 cases v with
 |str n t=>exact⟨_,_,rfl⟩|_=>exact bU h
noncomputable def z9(v:V):Option (Option bm):=@V.rec (fun z=>Option (Option bm)) none none (fun z=>none) (fun z=>none) (fun z=>none) (fun a=>some (some (.ref a))) (fun z=>some none) (fun z=>some none) v
noncomputable def zx(v:V):Option bm:=@V.rec (fun z=>Option bm) none none (fun z=>none) (fun z=>none) (fun z=>none) (fun z=>none) (fun n=>some (.type n)) (fun n=>some (.builtin n)) v
def yH(K:Frag)(v:V):Bool:=@V.rec (fun z=>Bool) false false (fun z=>false) (fun z=>false) (fun z=>false) (fun a=>(RZ K a).isSome||((clsIn K a).isSome&&lQ.contains a)) (fun z=>true) (fun z=>true) v
structure Kf(K:Frag)(la:Addr)(ns:List Int):Prop where
 nm:Al dh (fun x=>nsIn K mu (ae x)) (fun x=>z9 (Dw x))
 cal:(dh.all fun x=>yH K (Dw x))=true
 f0:((O8 la ns).all fun r=>(RZ K (adr (Dw r.nm))).isSome&&XB (HJ K r).body&&codeIn K (HJ K r).code (HJ K r).qualname)=true
 f1:Al (O8 la ns) (fun r=>fun v:Nat->bm=>bindArgs (HJ K r) ⟨(ej r.n).map v,[]⟩) fun r=>fun v=>pure ((Yq r).zip ((ej r.n).map v))
 f2:Al (O8 la ns) (fun r=>{(HJ K r).scope with more:=[]}) fun r=>⟨.function,r.N,false,false,[]⟩
 f3:Al (O8 la ns) (fun r=>((HJ K r).globals,(HJ K r).closure,(HJ K r).builtins)) fun z=>(mu,[],builtinsNs)
 f4:∀X d,Al (O8 la ns) (fun r=>sZ X d Dw (dh.map ae) (YO la ns) V1 20 r.N 20 (dC K (adr (Dw r.nm)))) fun r=>r.W X d Dw
 c0:(lQ.all fun C=>(clsIn K C).isSome&&hasDictIn K C&&plainOver K C&&makesIn K C&&plainGet K C "__class__"&&(N2 K C).1.toList.all fun e=>RW e.key)=true
 c1:Al lQ (fun C=>kF K (.ref C) "__getattribute__") fun z=>some (some (.builtin "object.__getattribute__"))
 c2:Al lQ (fun C=>kF K (.ref C) "__getattr__") fun z=>some none
 c3:Al lQ (fun C=>kF K (.ref C) "__setattr__") fun z=>some (some (.builtin "object.__setattr__"))
 c4:Al lQ (fun C=>At.all.map fun k=>kF K (.ref C) k.s) fun z=>At.all.map fun z=>some none
 c5:Al lQ (fun C=>kF K (.ref C) "__class__") fun z=>some (some (.builtin "object.__class__"))
 c6:Al lQ (fun C=>mroIn K C (.type "object")) fun z=>some true
 c7:Al lQ (fun C=>nL K (.ref C) "__call__") fun z=>some (some (.builtin "type.__call__"))
 c8:Al lQ (fun C=>(K.lookup C,some (MV K (Ic K C).ns).data)) fun C=>(some (wX K C),(K.lookup (Ic K C).ns).map fun z=>.dict (N2 K C).1 (N2 K C).2)
 c9:Al lQ (fun C=>(nsFind (N2 K C).1 "__eq__",nsFind (N2 K C).1 "__ne__")) fun z=>(none,none)
 s0:nL K (.builtin "object.__class__") "__get__"=some (some (.builtin "getset_descriptor.__get__"))
 s1:takesIn K (.builtin "object.__class__")=some true
 i0:Al in1 (fun p=>(kF K (.ref p.1) "__init__",typeIn K (.ref p.2))) fun p=>(some (some (.ref p.2)),some (.type "function"))
 m0:Al qW (fun p=>(kF K (.ref p.1) (ae p.2.1),typeIn K (.ref p.2.2),(RZ K p.2.2).isSome)) fun p=>(some (some (.ref p.2.2)),some (.type "function"),true)
 p0:Al tQ (fun p=>(kF K (.ref 184) (ae p.1),nL K (.ref p.2.1) "__get__",takesIn K (.ref p.2.1),(recIn K p.2.1 "property").bind List.head?)) fun p=>(some (some (.ref p.2.1)),some (some (.builtin "property.__get__")),some true,some (.ref p.2.2))
 k0:Al (ty1++[.ref 31]) (fun t=>kitOne K t (.ref 31)) fun t=>some (t==.ref 31)
 k1:Al [.ref 184,.ref 233] (fun t=>kitOne K t (.ref 184)) fun t=>some (t==.ref 184)
 k2:Al ty1 (fun t=>kitAny K t [.type "list",.type "tuple"]) fun t=>some (t==.type "list"||t==.type "tuple")
theorem Tw{vs:List bm}:(ej vs.length).map (fun i=>vs.getD i .none)=vs:=by
 refine List.ext_getElem (by rw[ac,fo]) fun i b a=>?_;rw[ka,tJ,eJ,ck a];rfl
variable{K:Frag}{la:Addr}{ns:List Int}{F:Frag}
theorem Wn:((O8 la ns).all fun r=>K7 r.N (Yq r)&&decide ((Yq r).length=r.n)&&decide (r.N.length-r.n=r.u)&&RT (dh.map ae) r.N)=true:=by kernel_rfl
theorem nZ:Al (O8 la ns) (fun r=>Dw r.nm) fun r=>.ref (adr (Dw r.nm)):=by kernel_rfl
theorem uR(b:gq X la ns):Xv X d (YO la ns):=⟨fun n k p c a h=>zR b h⟩
theorem Kf.fn(f:Kf K la ns){r:Yr}(m:r∈O8 la ns):rC K (adr (Dw r.nm)) (Yq r) (dC K (adr (Dw r.nm))) ⟨.function,r.N,false,false,(HJ K r).scope.more⟩:=by
 have d:=dA.mp f.f0 r m;rw[be,be]at d;obtain⟨⟨j,k⟩,l⟩:=d;refine Fp (Op j) fun c n o e=>?_;have g:=dA.mp (Wn) r m;rw[be,be,be]at g;have p:=of_decide_eq_true g.1.1.2;have a:=f.f3.at m;have s:(HJ K r).body=.stmts (dC K (adr (Dw r.nm))):=by
  unfold dC;rw[e];show(HJ K r).body=.stmts (match(HJ K r).body with
   |.stmts b=>b
   |_=>[])
  revert k;cases(HJ K r).body with
  |stmts b=>exact fun z=>rfl
  |_=>exact fun h=>fg h
 exact⟨⟨c,n,HJ K r,o,e,fun t u=>by
  have:=congrFun (f.f1.at m) fun i=>t.getD i .none;rw[<-p,<-u,Tw]at this;exact this,s,by
  have q:=f.f2.at m;cases v:(HJ K r).scope;rw[v]at q;injection q with w x a y;subst w x a y;rfl,congrArg (·.1) a,congrArg (·.2.1) a,congrArg (·.2.2) a,l⟩⟩
theorem pO:Al dh (fun x=>@V.rec (fun z=>Option bm) none none (fun z=>none) (fun z=>none) (fun z=>none) (fun z=>none) (fun z=>bootBuiltins (ae x)) (fun z=>bootBuiltins (ae x)) (Dw x)) fun x=>zx (Dw x):=by kernel_rfl
theorem wQ:(dh.all fun x=>ae x != "__name__")=true:=by kernel_rfl
theorem tM(f:Kf K la ns)(d:X.K=K):nH X Dw dh dh where
 g x m:=by
  have e:=f.nm.at m;have b:=pO.at m;have n:=bne_iff_ne.mp (dA.mp wQ x m);have c:=dA.mp f.cal x m;subst d;cases q:Dw x with
  |ref a=>rw[q]at e;exact⟨_,rfl,.inl e⟩
  |typ a=>rw[q]at e b;exact⟨_,rfl,.inr ⟨e,b,n⟩⟩
  |blt a=>rw[q]at e b;exact⟨_,rfl,.inr ⟨e,b,n⟩⟩
  |_=>rw[q]at c;cases c
 c x m:=by
  have c:=dA.mp f.cal x m;subst d;cases q:Dw x with
  |ref a=>
   rw[q]at c;rintro h rfl;rcases Bool.or_eq_true_iff.mp c with c|c
   ·exact Fp (Op c) fun c i j e=>.inl ⟨_,_,_,_,e⟩
   ·rw[be]at c;exact Fp (PA c.1) fun k i j e=>.inr ⟨⟨_,_,_,_,e⟩,f.c7.at (sN.mp c.2)⟩
  |typ a=>rintro h rfl;exact trivial
  |blt a=>rintro h rfl;exact trivial
  |_=>rw[q]at c;cases c
 re:=by decide +kernel
 ra:=by decide +kernel
 en:=by decide +kernel
section
variable(f:Kf K la ns){C:Addr}(m:C∈lQ)
include f m
theorem Kf.nU:(clsIn K C).isSome=true/\hasDictIn K C=true/\plainOver K C=true/\makesIn K C=true/\plainGet K C "__class__"=true/\((N2 K C).1.toList.all fun e=>RW e.key)=true:=by
 have h:=dA.mp f.c0 C m;rw[be,be,be,be,be]at h;exact⟨h.1.1.1.1.1,h.1.1.1.1.2,h.1.1.1.2,h.1.1.2,h.1.2,h.2⟩
theorem Kf.mY:Gw K C:=by
 refine Di (f.nU m) fun b a c=>Di c fun d g z=>⟨?_,f.c1.at m,f.c2.at m,f.c3.at m,d,g,fun k=>Al.at (f.c4.at m) k.jt⟩
 unfold hasDictIn at a;cases e:clsIn K C with
 |none=>rw[e]at b;cases b
 |some h=>rw[e]at a;exact⟨h,rfl,a⟩
theorem Kf.qt:Zo K C:=Di (f.nU m) fun z a b=>Bt b fun z z c z=>⟨c,a,f.c5.at m,f.s0,f.s1,f.c6.at m⟩
theorem Kf.ql:ZK K C:=by
 have h:=f.c8.at m;have c:=f.c9.at m;have g:=congrArg (·.1) h;have a:=congrArg (·.2) h;cases b:K.lookup (Ic K C).ns with
 |none=>rw[b]at a;cases a
 |some o=>
  rw[b]at a;have i:MV K (Ic K C).ns=o:=by unfold MV;rw[b];rfl
  rw[i]at a;obtain⟨p,q,j,k⟩:=o;have l:j=Data.dict (N2 K C).1 (N2 K C).2:=ag a;subst l;exact⟨fun d e=>⟨_,_,_,_,_,_,_,_,_,_,_,_,_,_,_,_,_,nsFind (N2 K C).1,e,rfl,d _ _ g,⟨_,_,_,d _ _ b,rfl,fun e n=>TQ (dA.mp (f.nU m).2.2.2.2.2 e (sQ.mpr n)),fun z=>rfl⟩,congrArg (·.1) c,congrArg (·.2) c⟩⟩
end
def Qn(C:Addr):Bool:=lQ.contains C
noncomputable def xF:fW:=⟨31,114,184,233⟩
theorem uo(f:Kf K la ns)(b:X.K=K)(c:X.cm=Qn):CX X:=by
 have a:∀{C},X.cm C=true->C∈lQ:=fun h=>by rw[c]at h;exact sN.mp h
 subst b;exact⟨fun C h=>f.mY (a h),fun C h=>f.ql (a h),fun C h=>f.qt (a h)⟩
theorem Kf.new(f:Kf K la ns){C fI:Addr}(i:Nat)(h:in1[i]?=some (C,fI))(a:lQ[i]?=some C):JC K C fI:=by
 have m:=ay a;have q:=f.i0.at (ay h);exact Fp (PA (f.nU m).1) fun c b d e=>⟨f.mY m,congrArg (·.1) q,congrArg (·.2) q,⟨_,_,_,_,e⟩,f.c7.at m⟩
theorem zj:(qW.all fun p=>!(At.all.map At.s).contains (ae p.2.1))=true:=by kernel_rfl
theorem Kf.meth(f:Kf K la ns){C fI:Addr}{name:String}(i:Nat)(h:qW[i]?=some (C,name,fI)):DG K C (ae name) fI:=by
 have m:=ay h;have q:=f.m0.at m;have o:=dA.mp zj _ m;exact Fp (Op (congrArg (·.2.2) q)) fun c a b e=>⟨congrArg (·.1) q,congrArg (·.2.1) q,⟨_,_,_,_,e⟩,fun z=>by rw[List.contains_iff_mem.mpr z]at o;cases o⟩
theorem Xu{c:Type}{y:Str}:∀{l:List (Str×c)} {q:c},l.lookup y=some q->(y,q)∈l:=by
 intro d;induction d with
 |nil=>
  intro _ h;exact gU h
 |cons f l g=>
  intro q h;obtain⟨a,b⟩:=f;rw[e9]at h;cases e:(y==a)with
  |true=>rw[e]at h;rw[i5 e,ag h];exact .head _
  |false=>rw[e]at h;exact .tail _ (g h)
theorem Ade(f:Kf K la ns)(k:X.K=K):Z0 X d V1:=⟨fun{own sc o A y q} p e l h=>by
 refine Ad (bn.mp (Xu e)) fun r m j=>?_;have b:=f.p0.at m;subst k;cases g:recIn X.K r.2.1 "property" with
 |none=>have:=congrArg (·.2.2.2) b;simp only[g]at this;exact gU this
 |some n=>
  have i:=congrArg (·.2.2.2) b;simp only[g]at i;cases n with
  |nil=>exact gU i|cons a c=>
   have s:=ag (i);rw[s]at g;rw[<-show ae r.1=y from congrArg Prod.fst j,<-show(V.ref 184,V.ref r.2.2)=q from congrArg Prod.snd j];exact XX (f.mY (dd rfl)) rfl rfl ⟨congrArg (·.1) b,congrArg (·.2.1) b,congrArg (·.2.2.1) b,⟨c,g⟩⟩ l h⟩
theorem fw(f:Kf K la ns)(e:X.K=K)(Ab:CX X)(c:nH X Dw dh dh)(g:gq X la ns)(i:Nat){b:String}{n u:Nat}{N:NK}{W:Cx->Nat->(String->V)->WS}(h:(O8 la ns)[i]?=some ⟨b,n,u,N,W⟩):dw X Dw (Dw b) n u N W:=by
 have m:=ay h;have a:=dA.mp (Wn) _ m;rw[be,be,be]at a;subst e;exact dw.of (nZ.at m) ⟨_,f.fn m⟩ a.1.1.1 (of_decide_eq_true a.1.1.2) (of_decide_eq_true a.1.2) fun d=>mN (motive:=fun w=>lB X d true N (dC X.K (adr (Dw b))) w) ((f.f4 X d).at m) (zB Ab c (uR g) (Ade f rfl) (cX.of c a.2) 20 _)
theorem v8(f:Kf K la ns)(a:X.K=K)(d:X.cm=Qn)(b:gq X la ns):Code X Dw xF:=by
 have Ab:=uo f a d;have c:=tM f a;exact{
  cx:=Ab
  gN:=by decide +kernel
  gB:=by decide +kernel
  gS:=by decide +kernel
  gC:=by decide +kernel
  pC:=by decide +kernel
  pF:=by decide +kernel
  qH:=by decide +kernel
  rP:=by decide +kernel
  qi:=by decide +kernel
  sH:=by decide +kernel
  nA:=by rw[d];decide +kernel
  oA:=by rw[d];decide +kernel
  jb:=by rw[d];decide +kernel
  mz:=by rw[d];decide +kernel
  lq:=by decide +kernel
  dJ:=by decide +kernel
  oM:=by decide +kernel
  kY:=by decide +kernel
  my:=by decide +kernel
  nN:=⟨28,by decide +kernel,a▸f.new 0 rfl rfl⟩
  nB:=⟨111,by decide +kernel,a▸f.new 1 rfl rfl⟩
  nS:=⟨130,by decide +kernel,a▸f.new 2 rfl rfl⟩
  nC:=⟨202,by decide +kernel,a▸f.new 3 rfl rfl⟩
  p7:=fun t e=>a▸f.k0.at e
  p8:=fun t e=>a▸f.k1.at e
  pQ:=fun t e=>a▸f.k2.at e
  jn:=⟨137,by decide +kernel,a▸f.meth 0 rfl⟩
  iD:=⟨144,by decide +kernel,a▸f.meth 1 rfl⟩
  jj:=⟨151,by decide +kernel,a▸f.meth 2 rfl⟩
  jy:=⟨158,by decide +kernel,a▸f.meth 3 rfl⟩
  dG:=⟨165,by decide +kernel,a▸f.meth 4 rfl⟩
  iU:=⟨209,by decide +kernel,a▸f.meth 5 rfl⟩
  jm:=⟨216,by decide +kernel,a▸f.meth 6 rfl⟩
  jJ:=⟨223,by decide +kernel,a▸f.meth 7 rfl⟩
  dF:=⟨230,by decide +kernel,a▸f.meth 8 rfl⟩
  gw:=fw f a Ab c b 0 rfl
  jN:=fw f a Ab c b 1 rfl
  gW:=fw f a Ab c b 2 rfl
  jo:=fw f a Ab c b 3 rfl
  jK:=fw f a Ab c b 4 rfl
  jl:=fw f a Ab c b 5 rfl
  fJ:=fw f a Ab c b 6 rfl
  iJ:=fw f a Ab c b 7 rfl
  jA:=fw f a Ab c b 8 rfl
  eO:=fw f a Ab c b 9 rfl
  gn:=fw f a Ab c b 10 rfl
  dM:=fw f a Ab c b 11 rfl
  fL:=fw f a Ab c b 12 rfl
  gA:=fw f a Ab c b 13 rfl
  fP:=fw f a Ab c b 14 rfl
  gD:=fw f a Ab c b 15 rfl
  gh:=fw f a Ab c b 16 rfl
  cO:=fw f a Ab c b 17 rfl
  dg:=fw f a Ab c b 18 rfl
  cZ:=fw f a Ab c b 19 rfl
  dq:=fw f a Ab c b 20 rfl
  cV:=fw f a Ab c b 21 rfl
  cg:=fw f a Ab c b 22 rfl
  j9:=fw f a Ab c b 23 rfl
  jw:=fw f a Ab c b 24 rfl
  iG:=fw f a Ab c b 25 rfl
  iV:=fw f a Ab c b 26 rfl
  gG:=fw f a Ab c b 27 rfl
  gO:=fw f a Ab c b 28 rfl
  iH:=fw f a Ab c b 29 rfl
  gZ:=fw f a Ab c b 30 rfl
  ie:=fw f a Ab c b 31 rfl
  j6:=fw f a Ab c b 32 rfl
  j4:=fw f a Ab c b 33 rfl
 }
theorem AbK(f:Kf K la ns)(a:X.K=K)(d:X.cm=Qn)(b:gq X la ns):Bj X Dw la ns:=
 have Ab:=uo f a d;have c:=tM f a
 ⟨fw f a Ab c b 34 rfl,fw f a Ab c b 35 rfl,fw f a Ab c b 36 rfl,fw f a Ab c b 37 rfl,fw f a Ab c b 38 rfl,fw f a Ab c b 39 rfl,fw f a Ab c b 40 rfl,fw f a Ab c b 41 rfl,fw f a Ab c b 42 rfl,fw f a Ab c b 43 rfl,fw f a Ab c b 44 rfl,fw f a Ab c b 45 rfl,fw f a Ab c b 46 rfl,fw f a Ab c b 47 rfl,fw f a Ab c b 48 rfl,by decide +kernel,by decide +kernel,by decide +kernel,by decide +kernel⟩
end
end Mine.Lake
end
section
open PySem PySem.W PySem.Calls PyProof.Rows
namespace Mine.Lake
section
variable{X:Cx}{d:Nat}{G:String->V}{P:Params}{F:Frag}{la:Addr}{ns:List Int}
theorem UK{vs:List bm}(h:IntsAre vs ns):cj vs (ns.map .int):=by
 induction h with
 |nil=>trivial|cons n t _ a=>exact⟨⟨t,rfl⟩,a⟩
theorem T8{K L:Frag}{h:Heap}(k:K.In h)(l:L.In h):Frag.In (K++L) h:=fun a o e=>by
 rw[tI]at e;cases q:og a K with
 |some b=>rw[q]at e;exact k a o (q.trans e)
 |none=>rw[q]at e;exact l a o e
theorem yo{a:Addr}{c:Obj}{h:Heap}(e:h.get? a=some c):Frag.In [(a,c)] h:=fun b o q=>by
 rw[e9]at q;cases z:(b==a)with
 |true=>rw[z]at q;rw[beq_iff_eq]at z;rw[z];exact e.trans q
 |false=>rw[z]at q;cases q
theorem Ln{K:Frag}{a:Addr}{ob:Obj}{h:Heap}(k:K.In h)(e:h.get? a=some ob):og a (K++[(a,ob)])=some ob:=by
 rw[tI];cases q:og a K with
 |some b=>have:=k a b q;rw[e]at this;exact this.symm
 |none=>simp
theorem Vu{s:cE}(k:X.K.In s.heap)(T:TopRead X.p X.loose X.mg X.mb s.heap)(b:s.gens=X.gens)(c:s.drawn=X.drawn)(d:s.os=X.os):RH X s.heap s (fun z=>none) where
 good:=⟨k,T⟩
 keep _ _ e:=e
 own _ _ e:=nomatch e
 new a q:=by
  rcases q with q|⟨_,_,_,q,_⟩
  ·exact absurd rfl q
  ·cases q
 lE _ _ _ _ e:=nomatch e
 inj _ _ _ _ _ _ _ e:=nomatch e
 gens:=b
 drawn:=c
 os:=d
theorem Rx(h:d<=60):iw d callerA:=by
 refine⟨rfl,?_,?_⟩
 ·show 1+claimMargin+d<990;have:claimMargin=300:=rfl;omega
 ·show 4+40*d+400<kB;have:(4000)<kB:=dd rfl;omega
theorem sI{K:Frag}{prog:om}{w:nK}{p:om}{a:List Str}{l m:Str->Option bm}{aac:cE}{vs:List bm}{n:Nat}(u:∀F,Kf (K++F) la ns)(q:K.In aac.heap)(T:TopRead p a l m aac.heap)
  (e:aac.heap.get? la=some {cls:=.type "list",data:=.seq vs.toArray n}) (y:IntsAre vs ns) (z:ns.length<=63) :
  dy (eA prog w) callerA (call (.ref 399) [.ref la]) (fun v g=>v=.bool true/\(∀b o,aac.heap.get? b=some o->g.heap.get? b=some o)/\g.os=aac.os/\g.gens=aac.gens) (fun Z Z=>False) aac:=by
 refine AA (⟨_,rfl⟩:∃X:Cx,X=⟨prog,w,K++[(la,{cls:=.type "list",data:=.seq vs.toArray n})],p,a,l,m,aac.gens,aac.drawn,aac.os,Qn⟩) fun X c=>?_;have A:X.prog=prog:=by rw[c]
 have B:X.w=w:=by rw[c]
 have i:X.K=K++[(la,{cls:=.type "list",data:=.seq vs.toArray n})]:=by rw[c]
 have s:X.cm=Qn:=by rw[c]
 have j:gq X la ns:=⟨vs,n,by rw[i];exact Ln q e,UK y⟩
 have R:RH X aac.heap aac (fun Z=>none):=Vu (by rw[i];exact T8 q (yo e)) (by rw[c];exact T) (by rw[c]) (by rw[c]) (by rw[c]);have f:=u [(la,{cls:=.type "list",data:=.seq vs.toArray n})];have h:=Adb (d:=20) (H:=fun Z=>none) (v8 f i s j) (AbK f i s j) j z (Q:=fun v Z=>v=.bool true) fun Z=>rfl;have t:=(h (.ref 399) [.ref la] (by rw[show Dw "law"=.ref 399 from by decide +kernel];rfl) ⟨rfl,trivial⟩).2.pt callerA aac.heap aac (Rx (dd rfl)) R;rw[A,B]at t;refine db t ?_ fun Z Z x=>x;rintro v g ⟨b,C,r,k,rfl⟩;exact⟨r,k.keep,by rw[k.os,c],by rw[k.gens,c]⟩
end
end Mine.Lake
end
end
open PySem PySem.W PySem.Calls PyProof.Rows
namespace Mine.Lake
theorem UR{P:Params}{h:Heap}{a:Addr}{d:WData}{M:List WData}(w:Well P h (.ref a) d)(e:d = .list M):∃vs:List bm,h.get? a = some {cls:=.type "list",data:=.seq vs.toArray}:=by
 cases w with
 |list o _=>exact⟨_,o⟩|_=>cases e
theorem mK{P:Params}{h:Heap}{a:Addr}{d:WData}{M:List WData}{vs:List bm}(w:Well P h (.ref a) d)(e:d = .list M)(l:h.IsList a vs.toArray):∃n,h.get? a = some {cls:=.type "list",data:=.seq vs.toArray n}:=by
 obtain⟨us,g⟩:=UR w e;obtain⟨o,g',_,n,q⟩:=l;obtain rfl:=ag (g.symm.trans g');refine⟨0,?_⟩;rw[g];injection q with q1 q2;rw[q1]
end Mine.Lake
namespace Mine.hx
def tw7117039502732272165:=True
def tw9129051367035982688:=True
def tw13994185481600150508:=True
def tw2848357750357388338:=True
def tw16403607636861804150:=True
def tw16937982806788184370:=True
def tw616740878971486716:=True
def tw4311935586957980807:=True
def tw1680849517792564725:=True
def tw8719310546069769394:=True
def tw1011593914326734453:=True
def tw11153406825157011147:=True
def tw2087738239193673434:=True
def tw1415654423932628287:=True
def tw6836243782229160083:=True
def tw12938584960106786947:=True
def tw13327334872544604925:=True
def tw5987738072841988675:=True
def tw4232555702244796835:=True
def tw11542809368468670571:=True
def tw2580623763806008135:=True
def tw18163383231904437410:=True
def tw14618633012687346700:=True
def tw10793050097425451903:=True
def tw11652467807154655573:=True
def tw7462397087798485187:=True
def tw3457709029089074591:=True
def tw13273623471580055978:=True
def tw7891766511613034010:=True
def tw6661460279421622568:=True
def tw2358503780328766540:=True
def tw11605663943579434254:=True
def tw10807983823035302247:=True
def tw5302141714640544522:=True
def tw13970432741380693950:=True
def tw3840107357115572158:=True
def tw12770057050171300576:=True
def tw16503919762052067167:=True
def tw7291546937901893924:=True
def tw13252264348859498455:=True
def tw10413734220558041264:=True
def tw18141915107381044649:=True
def tw6094537120995972945:=True
def tw16562810249119712046:=True
def tw8013753438709209555:=True
def tw15414558616249902002:=True
def tw7118774718363930462:=True
def tw18215676871104998399:=True
def tw663216957817655072:=True
def tw16653890388018469145:=True
def tw4835485041952420608:=True
def tw8280520150143245440:=True
def tw9229111910879503682:=True
def tw6234722803267601620:=True
def tw1362163949497883158:=True
def tw13173629366862862663:=True
def tw2899951234114317963:=True
def tw15396066670179936615:=True
def tw2101144305115712416:=True
def tw6912957689366828898:=True
def tw1375955018112806077:=True
def tw12389214559413477026:=True
def tw9838419238923530799:=True
def tw12392353606877693820:=True
def tw5973647403945334939:=True
def tw12764173250460046966:=True
def tw18436102530548493083:=True
def tw1086858223369594185:=True
def tw7135545248255827829:=True
def tw16094559385533672978:=True
def tw919350103801827390:=True
def tw5229663503899665235:=True
def tw15719070241404046249:=True
def tw14648767878841662682:=True
def tw15088012910613175391:=True
def tw2690994299918733986:=True
def tw15192764956840726322:=True
def tw15871474243252748558:=True
def tw8210334511716523686:=True
def tw2530950033039335674:=True
def tw16751661018229691023:=True
def tw3064612590093021604:=True
def tw4778239293986166988:=True
def tw14548133884454415568:=True
def tw4205994103841450751:=True
def tw8916866690797206258:=True
def tw11153277219916700167:=True
def tw13887421244684101553:=True
def tw6893509615905794137:=True
def tw1837536587343590555:=True
def tw9728688711462037987:=True
def tw3772895889506965678:=True
def tw14728151803300476778:=True
def tw1746777820676499790:=True
def tw13348707166376220045:=True
def tw4925180145992722077:=True
def tw13418063953174990607:=True
def tw634369046800973281:=True
def tw2933574226750363228:=True
def tw7924969997821631868:=True
def tw4081245987573513101:=True
def tw12886684066980348408:=True
def tw811370354263480444:=True
def tw8374021121780711109:=True
def tw14344502140286423506:=True
def tw440200682837978379:=True
def tw1623351667710231897:=True
def tw2884559834261289398:=True
def tw3423346011291521542:=True
def tw10596243801935397713:=True
def tw11876859455004161157:=True
def tw9115037031211061566:=True
def tw11068126759796092325:=True
def tw6225824510542169761:=True
def tw15222671194020912597:=True
def tw7168309623211571701:=True
def tw2618490190428073017:=True
def tw3461369719786860586:=True
def tw4277992108151645805:=True
def tw1463196147053303394:=True
def tw3228090532262280768:=True
def tw10147221347258369205:=True
def tw12377959399836290067:=True
def tw7448076970475776704:=True
def tw899982699746041680:=True
def tw16328980522917596230:=True
def tw3548908381971391680:=True
def tw990764820897086996:=True
def tw12087079219971932454:=True
def tw9463795675075205437:=True
def tw8078265402885471976:=True
def tw2559257357635606366:=True
def tw14919038862432082165:=True
def tw6948474134290792126:=True
def tw1016313470199982537:=True
def tw10471693372546886218:=True
def tw15656486127985483219:=True
def tw18112682675998309622:=True
def tw9592554324860578136:=True
def tw14817645703785147396:=True
def tw17453721029707611201:=True
def tw5003379905787062580:=True
def tw3597224387928761530:=True
def tw15031465929163138751:=True
def tw7822962280082496512:=True
def tw2927320300579833983:=True
def tw12531592957024129060:=True
def tw4443683451718327492:=True
def tw12112647759870957014:=True
def tw8294567603793468075:=True
def tw9440667166201527827:=True
def tw10259550172225532679:=True
def tw14311561367197305191:=True
def tw2951018021206863066:=True
def tw18025658111944671314:=True
def tw7271874215164270623:=True
def tw6776692331446987615:=True
def tw9734231803939806538:=True
def tw3221206007101484751:=True
def tw11074221192868344092:=True
def tw145932963246128051:=True
def tw2533170188022924913:=True
def tw9300793153402489460:=True
def tw17016924944305248243:=True
def tw1890682559011639224:=True
def tw3275178236903027326:=True
def tw2822907071458423533:=True
def tw15847444086296491327:=True
def tw10742297795112918153:=True
def tw11516083673652718094:=True
def tw5151445886737355997:=True
def tw8153351105357841641:=True
def tw11511833604947660874:=True
def tw4035567117447141005:=True
def tw3722370046394560457:=True
def tw13904747866207299807:=True
def tw5644764048023550207:=True
def tw10116244012155279326:=True
def tw17557955846509285157:=True
def tw313783033510757027:=True
def tw4567310155831165015:=True
def tw9975269523818592724:=True
def tw15003182733627720372:=True
def tw15097703535185493621:=True
def tw4743368475946334711:=True
def tw16058991070295768540:=True
def tw14992983214800064602:=True
def tw16038111126348386163:=True
def tw6768751125542400157:=True
def tw13360980773314081272:=True
def tw1881273628141950129:=True
def tw9504622745713830366:=True
def tw3424554264377311647:=True
def tw17039554997033918745:=True
def tw764732042479237497:=True
def tw16179723595558240676:=True
def tw1972047601138287618:=True
def tw7160642757287845954:=True
def tw7010757331310601657:=True
def tw7992169660659198757:=True
def tw12876500496384970917:=True
def tw5060404574720663952:=True
def tw568883250039891352:=True
def tw2063962012853046974:=True
def tw7492030116529166354:=True
def tw16051292036045715728:=True
def tw3897231576808763883:=True
def tw4003515419551643288:=True
def tw15902653346226055279:=True
def tw9425653185733914764:=True
def tw5286479519828484009:=True
def tw5002266203513084153:=True
def tw17001873279354605088:=True
def tw17393156024033759196:=True
def tw11501113234145657499:=True
def tw10610913765530660747:=True
def tw12821517133369311258:=True
def tw16584103675982884176:=True
def tw6810229405824084477:=True
def tw30516888858077971:=True
def tw12476055800596261357:=True
def tw13923397955430767758:=True
def tw10918413460159112602:=True
def tw2492048929613541025:=True
def tw15695149568941424871:=True
def tw8800404311707590821:=True
def tw11133863230559657982:=True
def tw15571626766152387222:=True
def tw4171044283588914020:=True
def tw551878033868750631:=True
def tw18288557733248936724:=True
def tw2404633205489611897:=True
def tw579933421156941401:=True
def tw3105936464211144054:=True
def tw16509932877354490577:=True
def tw2822385975729611342:=True
def tw14547076071350101635:=True
def tw11180674998892410296:=True
def tw17158850808337323685:=True
def tw11442105100669052236:=True
def tw4820356001183778062:=True
def tw9071423850677124175:=True
def tw9728156084186220081:=True
def tw10783175264176337430:=True
def tw17812654206654028429:=True
def tw16174250225865239651:=True
def tw13458227961471406816:=True
def tw3502533989761060701:=True
def tw16619632684288853345:=True
def tw2504348554245470067:=True
def tw13047111702688295373:=True
def tw11868710178002341650:=True
def tw767136082746918875:=True
def tw16600827452279821873:=True
def tw3089318795281737075:=True
def tw14364079368883715770:=True
def tw10307356883056191786:=True
def tw7876969669924440321:=True
def tw3011061140052219710:=True
def tw6951225809539125009:=True
def tw12545834286116690562:=True
def tw4951867800294161291:=True
def tw7411675879612560423:=True
def tw358558379371031262:=True
def tw8629640164197408899:=True
def tw6382291294955211999:=True
def tw2146883442004570292:=True
def tw15964317271155168136:=True
def tw16831101020866358490:=True
def tw9960968122618143832:=True
def tw7789537453598603269:=True
def tw15369465458315143963:=True
def tw4597341119782713080:=True
def tw11874976274172590891:=True
def tw64630411898889128:=True
def tw16810214309375985759:=True
def tw5548490626718368004:=True
def tw16889384090722931010:=True
def tw18021650032858729757:=True
def tw16514233136784977297:=True
def tw576899675763343441:=True
def tw5859954059831970930:=True
def tw1510941156237703019:=True
def tw3770322921552031231:=True
def tw9580440979016352591:=True
def tw1742656451142089649:=True
def tw18383182533153586477:=True
def tw9733707994341241046:=True
def tw7196959931366684185:=True
def tw9160301636639237467:=True
def tw15784146693891255721:=True
def tw18119002219515010161:=True
def tw16447564128994577934:=True
def tw12247584602314355929:=True
def tw1352479365382649514:=True
def tw2497926436135343631:=True
def tw17832744011254776289:=True
def tw13733715944362664559:=True
def tw12122080299700438669:=True
def tw15637220148305887217:=True
def tw432897219053493142:=True
def tw2896438728730547279:=True
def tw18286160104727862462:=True
def tw3264777137382535416:=True
def tw5546299256372968745:=True
def tw15983379114161591765:=True
def tw15088266657895807461:=True
def tw11108718026129502348:=True
def tw8339939058450410749:=True
def tw6938760501003799309:=True
def tw7494296812056875437:=True
def tw3169779510389522523:=True
def tw16929762562273154506:=True
def tw9926087939513100535:=True
def tw11950744475718057257:=True
def tw14304415443402900283:=True
def tw1628044414854275119:=True
def tw7445733027249461639:=True
def tw8680568747675894556:=True
def tw14150925457611720700:=True
def tw16503685224865804450:=True
def tw5082078913947219992:=True
def tw17601551063327761115:=True
def tw10143001506211119355:=True
def tw15890461587552314789:=True
def tw14364110991727458282:=True
def tw2313343453469587:=True
def tw17365841796568000854:=True
def tw10782636077873877296:=True
def tw16422446190411312259:=True
def tw3952756967378608505:=True
def tw10864032600957282309:=True
def tw6346493079076818392:=True
def tw3035972135482712479:=True
def tw13547730712452243089:=True
def tw14629616601678125156:=True
def tw8376254902212403422:=True
def tw8063799498105216150:=True
def tw11255313108558152148:=True
def tw5033423968699698886:=True
def tw4709067958626073384:=True
def tw1765193833724418456:=True
def tw17967490135107311282:=True
def tw8072070048918887560:=True
def tw14829580396654412330:=True
def tw15462683395770930534:=True
def tw13028522948772262508:=True
def tw45817232647829279:=True
def tw558561146864003076:=True
def tw2786521351924353169:=True
def tw1359767371040273477:=True
def tw6810358813687007468:=True
def tw4518221268279412019:=True
def tw5492716820719653743:=True
def tw8683918616840425538:=True
def tw7105652820812284432:=True
def tw15102594672415386349:=True
def tw8462949007004437653:=True
def tw9661119599188179355:=True
def tw932451246233767929:=True
def tw3864814513713628098:=True
def tw16131195338128503568:=True
def tw4957977497641929111:=True
def tw13051606616835114215:=True
end Mine.hx
set_option Elab.async true in
set_option maxRecDepth 100000 in
set_option maxHeartbeats 8000000 in
theorem Mine.hx : PySem.Challenge.rw_nt0358_02.Holds := by
  w_on; o_law; k_head; (case hw => w_witness2)
  k_fill
  intro w abe aac mg mb G Y fa o pm cd doc dV kV ho hd' hcd hD hmg hg args vals as hpre hlay hrd hwl hlo
  have KX := kIn_of Y
  refine Ground.open G ?_
  intro T B D TE TW
  clear ho hd' hcd hD
  have hfa : mg (Str.ofString "law") = some (.ref 399) := mg_of KX (topRead_of T).g (by kernel_rfl)
  have hfa' : some (Value.ref fa) = some (Value.ref 399) := hmg.symm.trans hfa
  cases hfa'
  clear hfa hmg
  wrow_args hpre hlay hrd hwl hlo
  rename_i hL ra w1 r0 hI hr hc1 hc2
  obtain ⟨n, hla⟩ := Mine.Lake.mK w1 rfl hL
  have hn := Int.ofNat_le.mp (Int.not_lt.mp hc1)
  refine wpAny_mono (Mine.Lake.sI ?FK KX (topRead_of T) hla hI hn) ?_ (fun _ _ x => x.elim)
  case FK =>
    intro F
    constructor
    case f4 => intro X d; kernel_rfl
    all_goals kernel_rfl
  rintro v s' ⟨rfl, hk, ho, hgs⟩
  refine ⟨.inl ⟨.bool true, .bool true, [], rfl, fun _ => rfl, .bool true, ?_, fun _ => ⟨.nil, nofun⟩⟩, OldK.of_keep hk, ho, .of_eq (hgs.trans hg)⟩
  wrow_post
theorem PySem.Challenge.cw_nt0358_02_holds : PySem.Challenge.rw_nt0358_02.Holds :=
  Mine.hx
