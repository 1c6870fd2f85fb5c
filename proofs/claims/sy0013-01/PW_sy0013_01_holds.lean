import PyProof.Rows.All
import Wide.All
import OpenK.AllK
import Wide.FinOn
import Lean
import PySem.Challenge.RW_sy0013_01
set_option bootstrap.genMatcherCode false
set_option compiler.extract_closed false
open And renaming intro->k0,left->yd,right->B1
open Array renaming eq_empty_of_size_eq_zero->aiA,getElem?_eq_getElem->aie,length_toList->Ce
open Bool renaming and_eq_true->fu,casesOn->fD,eq_false_iff->KE,false_eq_true->u2,false_ne_true->k3,false->aN,not_eq_true'->sR,not_eq_true->Co,or_eq_true->ya,true->af
open Decidable renaming decide->an,not_not->aif
open False renaming elim->iV
open ForInStep renaming yield->vc
open Iff renaming of_eq->f3
open Inhabited renaming default->iB
open Int renaming add_assoc->mb,add_nonneg->q9,add_zero->jg,emod_eq_of_lt->JO,eq_ofNat_of_zero_le->nG,fmod_lt_of_pos->yc,fmod_nonneg_of_pos->aiH,fmod_nonneg->KT,le_add_one->vj,le_antisymm->lA,le_of_eq->BY,le_of_lt->mc,le_refl->g2,le_trans->jh,lt_iff_le_and_ne->aiL,lt_of_le_of_lt->uQ,lt_of_lt_of_le->B0,lt_succ->uR,lt_trans->Ka,mul_add->JN,mul_zero->JM,natCast_add->m2,natCast_nonneg->ow,natCast_pos->KS,ne_of_gt->u6,ne_of_lt->JQ,not_le->BZ,not_lt->lz,ofNat_le->ov,ofNat_lt->nB,sub_nonneg_of_le->sx,toNat_le->JP,toNat_of_nonneg->lB,toNat_of_nonpos->JS,zero_add->uO
open LawfulBEq renaming eq_of_beq->k4
open LawfulMonad renaming pure_bind->Cn
open List renaming all_eq_true->mZ,any_cons->xS,any_eq_true->Kv,append_assoc->bU,append_nil->ca,casesOn->cv,contains_iff_mem->aiN,dropLast_eq_take->ah6,drop_eq_getElem_cons->aiw,drop_eq_nil_of_le->aiv,drop_nil->J0,eq_nil_of_length_eq_zero->J4,ext_getElem?->KX,filterMap_cons_some->aiy,filterMap_cons->KG,filter_append->aiD,filter_cons_of_neg->rp,filter_cons_of_pos->m3,filter_cons->vd,filter_eq_nil_iff->aid,filter_eq_self->aiM,flatMap_append->kb,flatMap_cons->CA,flatMap_nil->K1,flatMap_singleton->pU,flatten_append->KY,flatten_cons->Cx,flatten->kZ,forIn_cons->Kx,forall_mem_cons->ro,getD_eq_getElem?_getD->xQ,getElem?_append_left->ek,getElem?_append_right->hh,getElem?_append->aiB,getElem?_concat_length->iC,getElem?_drop->sX,getElem?_eq_getElem->eM,getElem?_eq_none_iff->Kw,getElem?_eq_none->KF,getElem?_eq_some_iff->cs,getElem?_map->h4,getElem?_nil->xR,getElem?_of_mem->sS,getElem?_range->sZ,getElem?_set_ne->sB,getElem?_set_self->J1,getElem?_take_of_lt->yg,getElem_mem->KA,getLast?_concat->aiG,length_append->a6,length_cons->hM,length_drop->B8,length_filter_le->yf,length_map->cj,length_nil->x9,length_range->kG,length_replicate->Ky,length_set->J2,length_take->xY,length->L,lookup_cons->lG,lookup->Cp,map_append->eu,map_congr_left->ais,map_cons->oz,map_eq_nil_iff->aiE,map_map->Ku,map_nil->Cy,mem_append_left->hN,mem_append_right->gC,mem_append->et,mem_cons_of_mem->dy,mem_cons_self->db,mem_cons->fw,mem_filter->rl,mem_flatMap->K3,mem_flatten->CB,mem_map_of_mem->nI,mem_map->f2,mem_of_getElem?->jK,mem_range->Ca,mem_singleton->cz,mergeSort_perm->u3,nodup_append->oH,nodup_cons->pL,nodup_nil->Cu,nodup_range->Cz,not_mem_nil->m0,of_mem_zip->KD,pairwise_append->Cw,pairwise_cons->sN,pairwise_iff_getElem->air,pairwise_map->vi,pairwise_mergeSort->Cd,perm_append_comm_assoc->K5,perm_append_comm->ye,range->jI,rec->sD,replicate_succ->aia,replicate->iW,set_append_right->nH,sublist_flatten_of_mem->aiF,take_append_drop->ah4,take_nil->JZ,toArray->re,zip_cons_cons->aiz
open List.Pairwise renaming imp->KZ
open List.Perm renaming append_left->aiO,append->aiP
open Nat renaming add_assoc->ka,add_comm->xN,add_le_add_left->iE,add_le_add_right->vg,add_le_add->vh,add_left_cancel->aiI,add_lt_add_left->JR,add_lt_of_lt_sub->ah0,add_right_cancel->aiJ,add_right_comm->KR,add_sub_cancel'->sy,add_sub_cancel_left->ox,beq->f1,ble_eq_true_of_le->f0,ble->e1,blt_eq->sH,blt->kC,casesOn->dx,eq_of_beq_eq_true->oI,le_add_left->ev,le_add_right->cZ,le_antisymm->kB,le_max_left->kF,le_max_right->mh,le_of_ble_eq_true->ea,le_of_eq->he,le_of_lt_succ->B6,le_of_lt->hy,le_of_not_lt->lC,le_of_succ_le->jL,le_refl->br,le_succ_of_le->j8,le_succ->fJ,le_total->nE,le_trans->aU,lt_add_of_pos_right->pS,lt_irrefl->pM,lt_of_le_of_lt->g4,lt_of_lt_of_le->iT,lt_or_gt_of_ne->K0,lt_succ_iff_lt_or_eq->Cv,lt_succ_of_le->mU,lt_succ_of_lt->rd,lt_succ_self->hi,lt_trans->kE,max_eq_left->xV,max_eq_right->uW,max_le->pT,min_eq_left->xX,min_eq_right->sJ,min_le_left->K2,min_le_right->rc,mul_le_mul_left->pK,mul_le_mul_right->aiQ,ne_of_gt->sV,ne_of_lt->jH,not_lt_zero->va,not_lt->hw,rec->sE,sub_add_cancel->dc,sub_lt_left_of_lt_add->aiK,sub_self->oJ,succ_le_of_lt->KU,succ_le_succ->gy,succ_ne_self->Cq,succ_ne_zero->KW,succ_pos->vb,zero_add->m1,zero_le->fK,zero_lt_one->K4
open Nat.succ renaming inj->Cr
open Ne renaming symm->sU
open Option renaming bind_eq_some_iff->jG,casesOn->gA,isSome_iff_exists->Kz,map_eq_some_iff->h3,none->ab,some->O
open Option.some renaming inj->JT
open Or renaming elim->gQ
open Prod renaming casesOn->uP
open Pure renaming pure->dk
open PyProof.Rows renaming Subscript_->x4,getMethod_list_of->Kh,listUpdate_at->Kk,seqObj->gB,size_push'->sO
open PySem renaming Addr->ac,Around->eb,BoolOp->oB,CmpOp->mW,Comprehension->u8,Const->rf,DictEntry->eL,Env->cU,Expr->ay,FuncData->sW,Heap->fS,KeyKind->uY,Keyword->u7,NameKind->h5,Obj->g3,Operator->mV,OsState->fv,Params->b5,Pos->b0,PyData->lF,Scope->iX,Sem->hg,Shared->b1,Stmt->e0,Str->aH,Value->ae,World->e9,arm_eval_Slice->Ks,assignInOrder->Cm,assign->rk,backTo->oG,behindInMarks->u',callEnvC->rm,callWith_type->Ck,call_isinstance->ri,call_meets->sF,call->lD,cellsFrom->Cs,codeAny_mono->yb,compEnvC->sT,compareOp->rb,constantsAlone->Cg,evalEach->x3,eval->gn,foldedForSure->Ch,foldedSetIterable->ve,getItem->uZ,hashInt->oA,holding->me,importedModules->JW,intKind_is->oD,intKind->lE,isSubtype_type->rh,isSubtype->rg,isTrue->u9,mainGlobals->xP,mem_of_lookup->Ct,model->oy,noFill_tuple_add->J5,nsFind->mf,rawInt->sP,reduceHash->B2,seq_tuple_add->J6,setItem->sK,sizeLine_eq->u5,sizeLine->pP,slicePick->sI,slot_list_getitem->Kb,standAt->pR,starEach->mY,stored->uS,strKind_is->uX,swappedStores->KC,sysModules->pQ,treeTable->q',truthy->sG,valueAt->ra,wpAny_Call_NameR->x8,wpAny_Constant_str->Ci,wpAny_bind->bh,wpAny_callSpecial?_slot->aig,wpAny_call_entry->u1,wpAny_execs_nil->KB,wpAny_getItem_list_slice->aic,wpAny_holding->eE,wpAny_mono->hx,wpAny_newList->Kj,wpAny_pure->cX,wpAny_release->x7,wpAny_rule->B',wpAny_standAt->j',wpAny_truthy_bool->xW,wpAny_unpackItems_tuple->ait,wpAny->bL
open PySem.Around renaming in1_units->Kc
open PySem.Builtin renaming divisionGoesByPylong->ah8
open PySem.Builtin.List renaming listTooLong->uV
open PySem.Builtin.Range renaming rangeSize->aiu
open PySem.Builtin.Tuple renaming tupleHashOf->sA
open PySem.Calls renaming callWith_builtin->rj,call_function_entry->aip,evalArgs_plain->Kt,loadGlobal_builtin->Kl,loadGlobal_global->Cf,spliced_cons->x2,spliced_nil->Kr
open PySem.Challenge renaming rw_sy0013_01->JX
open PySem.Data.dict renaming elim->KJ
open PySem.Data.fields renaming elim->KL
open PySem.Data.func renaming elim->KM
open PySem.Data.seq renaming elim->KI
open PySem.Expr renaming casesOn->jJ
open PySem.Expr.Call renaming elim->Ko
open PySem.Expr.Constant renaming elim->Kn
open PySem.Expr.ListComp renaming elim->Kq
open PySem.Expr.Name renaming elim->x1
open PySem.Expr.Slice renaming elim->Km
open PySem.Expr.Tuple renaming elim->Kp
open PySem.F renaming args_dict_get_3->aih,args_list_extend_2->aio,args_tuple_add_2->J9,entry_dict_get->Ke,entry_list_extend->ain,entry_tuple_add->J8,isi_meta_str->x5,isi_meta_tuple->x6,plainAttrs_dict->aij,slot_dict_get->x0,slot_int_rmul->ah9,slot_list_append->ail,slot_list_extend->Ki,slot_list_iadd->aix,slot_list_pop->aim,slot_tuple_add->J7,slot_tuple_hash->B9,type_dict_get->aik
open PySem.FuncBody.stmts renaming elim->KQ
open PySem.Heap renaming ExtBut->J3,SameBut->uT,get?_push_of_some->kD,get?_push_size->ji,get?_update_ne->aiq,get?_update_self->aii,lt_size->gz,size_after_update->ah7,size_push->oC,size_update->u4
open PySem.Heap.SameBut renaming update->Cb
open PySem.NameKind renaming casesOn->Cj,free->sQ
open PySem.Obj renaming mapDictKeys->Kd,mapSeq->j9,putName->Kf
open PySem.PyData renaming canLay0->J',canLayAll0->aib,depthAll->xU,eqv->pN,int->KV,keyHash->Kg,list->B7,strOk->md,tuple->uU
open PySem.Stmt.ClassDef renaming elim->JU
open PySem.Stmt.FunctionDef renaming elim->xO
open PySem.Str renaming ofString_eq_toList->aiC,ofString->nC
open PySem.TablesWhole renaming wProgram->ah5
open PySem.Value renaming isStr->Cc
open PySem.Value.int renaming elim->KN
open PySem.Value.ref renaming elim->KO
open PySem.Value.str renaming elim->KP
open PySem.W renaming emptyDict->rn,fencedOpening->JV,findIn->k1,instObj->nD,lookIn->sL,makesIn->vf,namesMeet->B5,topFrame->sz
open PySem.W.Fast renaming named_eq->ah3,te14364793385576792824->B4,te17119622794617984870->JY,te8326940854005059898->ah2,tw1435165496053646825->ah1,tw14364793385576792824->B3
open PySem.W.WShape renaming hasItems->K6
open ToString renaming toString->sC
open _root_ renaming Array->dC,Bool->bm,DecidableEq->iU,Decidable->xT,False->c8,Int->m,List->n,Nat->j,Option->Q,True->fZ,Unit->mX,absurd->b6,and_congr->h6,beq_iff_eq->xZ,beq_self_eq_true->KH,congrArg->cp,decide_eq_false->cL,decide_eq_true_eq->k2,decide_eq_true->dz,dif_neg->oF,dif_pos->oE,exists_congr->iY,if_false->nF,if_neg->ce,if_pos->cP,if_true->u0,of_decide_eq_false->iF,of_decide_eq_true->dT,rfl->aa,trivial->bY
set_option linter.all false
set_option genSizeOf false
set_option genInjectivity false
set_option tactic.hygienic false
set_option hygiene false
set_option Elab.async false
set_option genCtorIdx false
local macro_rules |`(())=>`(by kernel_rfl)
local macro_rules |`(tactic|rfl')=>`(tactic|kernel_rfl)
local macro_rules |`(⋯)=>`(by decide)
noncomputable section
namespace Mine.Internal.Ar
inductive d8|u (i:j)|y (k:j)|b (x a:d8)|f (k:j)(x:d8)
inductive eN|u (i:j)|y (k:j)|g (x:eN)|b (x a:eN)|c (x a:eN)|f (k:j)(x:eN)|d (x:d8)
inductive cf|le (x y:d8)|lt (x y:d8)|l (x y:d8)|a (x y:eN)|Lt (x y:eN)|Eq (x y:eN)|b (c:cf)|e (c d:cf)|K (c d:cf)|F
noncomputable abbrev d8.a:d8:=.u 0
noncomputable abbrev d8.e:d8:=.u 1
noncomputable abbrev d8.l:d8:=.u 2
noncomputable abbrev d8.s:d8:=.u 3
noncomputable abbrev d8.X:d8:=.u 4
noncomputable abbrev d8.ab:d8:=.u 5
noncomputable abbrev d8.K:d8:=.y 0
noncomputable abbrev d8.r:d8:=.y 1
noncomputable abbrev d8.W:d8:=.y 2
noncomputable abbrev d8.L:d8:=.y 3
noncomputable abbrev eN.a:eN:=.u 0
noncomputable abbrev eN.e:eN:=.u 1
noncomputable abbrev eN.l:eN:=.u 2
noncomputable abbrev eN.s:eN:=.u 3
noncomputable abbrev eN.X:eN:=.u 4
noncomputable abbrev eN.ab:eN:=.u 5
noncomputable abbrev eN.K:eN:=.y 0
noncomputable abbrev eN.r:eN:=.y 1
noncomputable abbrev eN.W:eN:=.y 2
noncomputable abbrev eN.L:eN:=.y 3
variable{ar e4 Fs:Type}{bs rs:bm}{c1:n j}
noncomputable def dD (d:ar)(l:n ar):j->ar:=l.rec (λa=>d) λx a f i=>i.rec x λb a=>f b
def d8.D (N:n j)(e:d8):Nat:=e.rec (dD 0 N) (λk=>k) (λa a p q=>p+q) λk a p=>k*p
def eN.D (N:n j)(Z:n m)(e:eN):Int:=e.rec (dD 0 Z) (λk=>(k:m)) (λa p=> -p) (λa a p q=>p+q) (λa a p q=>p-q) (λk a p=>(k:m)*p) λx=>((x.D N:j):m)
def cf.D (N:n j)(Z:n m)(e:cf):Prop:=e.rec (λx y=>x.D N<=y.D N) (λx y=>x.D N<y.D N) (λx y=>x.D N=y.D N) (λx y=>x.D N Z<=y.D N Z) (λx y=>x.D N Z<y.D N Z) (λx y=>x.D N Z=y.D N Z) (λa p=>¬p) (λa a p q=>p/\q) (λa a p q=>p\/q) c8
abbrev cI:=n m
structure dZ where mk::(L:m)(y ab:cI)
def rq (a:cI):cI->cI:=a.rec (λb=>b) λx l f b=>b.rec (x::l) λy m c=>(x+y)::f m
def rr (k:m)(a:cI):cI:=a.rec [] λx b f=>(k*x)::f
noncomputable def vk (i:j):cI:=i.rec [1] λa f=>0::f
def hj (a:cI):cI->Int:=a.rec (λc=>0) λx c f b=>b.rec 0 λy m c=>x*y+f m
def c4 (N:n j):cI:=N.rec [] λx a f=>(x:m)::f
def dZ.b (a b:dZ):dZ:=⟨a.L+b.L,rq a.y b.y,rq a.ab b.ab⟩
def dZ.a (w:m)(a:dZ):dZ:=⟨w*a.L,rr w a.y,rr w a.ab⟩
def dZ.D (N:n j)(Z:cI)(a:dZ):Int:=a.L+hj a.y (c4 N)+hj a.ab Z
def d8.C (e:d8):dZ:=e.rec (λi=>⟨0,vk i,[]⟩) (λk=>⟨k,[],[]⟩) (λa a p q=>p.b q) λk a p=>p.a k
def eN.C (e:eN):dZ:=e.rec (λi=>⟨0,[],vk i⟩) (λk=>⟨k,[],[]⟩) (λa p=>p.a (-1)) (λa a p q=>p.b q) (λa a p q=>p.b (q.a (-1))) (λk a p=>p.a k) d8.C
abbrev jj:=n (bm×dZ)
def bz (b a:dZ)(k:m):dZ:=(b.b (a.a (-1))).b ⟨k,[],[]⟩
def cf.C (e:cf):jj×jj:=e.rec
 (λx y=>([(aN,bz y.C x.C 0)],[(aN,bz x.C y.C (-1))]))
 (λx y=>([(aN,bz y.C x.C (-1))],[(aN,bz x.C y.C 0)]))
 (λx y=>([(af,bz y.C x.C 0)],[]))
 (λx y=>([(aN,bz y.C x.C 0)],[(aN,bz x.C y.C (-1))]))
 (λx y=>([(aN,bz y.C x.C (-1))],[(aN,bz x.C y.C 0)]))
 (λx y=>([(af,bz y.C x.C 0)],[]))
 (λa p=>(p.2,p.1))
 (λa a p q=>(p.1++q.1,[]))
 (λa a p q=>([],p.2++q.2))
 ([],[])
def vl (b:bm)(i:m):Int:=b.rec (i.rec (λk=>(k:m)) λa=>0) i
def cJ (a:jj):cI->dZ:=a.rec (λb=>⟨0,[],[]⟩) λx b f w=>w.rec ⟨0,[],[]⟩ λi v b=>(x.2.a (vl x.1 i)).b (f v)
def CC (a:cI):Bool:=a.rec af λx b f=>(an (x<=0)).rec aN f
def CD (a:cI):Bool:=a.rec af λx b f=>(an (x=0)).rec aN f
def dZ.l (a:dZ):Bool:=(an (a.L<0)).rec aN ((CC a.y).rec aN (CD a.ab))
def k5 (h:(bs.rec aN rs:bm)=af):bs=af/\rs=true:=by
 induction bs using fD with
 |false=>injection h
 |true=>exact⟨aa,h⟩
def K7 (N:n j)(i:j):dD 0 (c4 N) i=((dD 0 N i:j):m):=by
 induction N generalizing i with
 |nil=>rfl
 |cons x l a=>induction i using dx with
  |zero=>rfl
  |succ i=>exact a i
theorem CE (i:j)(N:cI):hj (vk i) N=dD 0 N i:=by
 induction i generalizing N with
 |zero=>induction N using cv with
  |nil=>rfl
  |cons x l=>exact(jg _).trans (Int.one_mul x)
 |succ i a=>induction N using cv with
  |nil=>rfl
  |cons x l=>exact((cp (·+hj (vk i) l) (Int.zero_mul x)).trans (uO _)).trans (a l)
def CF (a b c d:m):a+b+(c+d)=a+c+(b+d):=by rw[mb,mb,Int.add_left_comm b]
def CG (a:cI):hj a []=0:=by induction a using cv<;>rfl
theorem CH (a b N:cI):hj (rq a b) N=hj a N+hj b N:=by
 induction a generalizing b N with
 |nil=>exact(uO _).symm
 |cons x l d=>
  induction N using cv with
  |nil=>exact(CG _).trans (cp ((0:m)+·) (CG b)).symm
  |cons n N=>
   induction b using cv with
   |nil=>exact(jg _).symm
   |cons y c=>show(x+y)*n+hj (rq l c) N=(x*n+hj l N)+(y*n+hj c N);rw[d,Int.add_mul,mb,mb,Int.add_left_comm (y*n)]
theorem CI (k:m)(a N:cI):hj (rr k a) N=k*hj a N:=by
 induction a generalizing N with
 |nil=>exact(JM _).symm
 |cons x l b=>
  induction N using cv with
  |nil=>exact(JM _).symm
  |cons n N=>show(k*x)*n+hj (rr k l) N=k*(x*n+hj l N);rw[b,JN,Int.mul_assoc]
variable{dA Le:cI}{gD jM:dZ}{d o B J aF bo jD ky sq:m}{s2 CK:jj}{aV dr fn gF hP jm kd m9 oL ry vm C0:Prop}
def dZ.e (a b:dZ):(a.b b).D c1 dA=a.D c1 dA+b.D c1 dA:=by show a.L+b.L+hj (rq _ _) _+hj (rq _ _) _=(_+_+_)+(_+_+_);rw[CH,CH];exact(cp (·+_) (CF _ _ _ _)).trans (CF _ _ _ _)
def dZ.r (w:m)(a:dZ):(a.a w).D c1 dA=w*a.D c1 dA:=by show w*a.L+hj (rr _ _) _+hj (rr _ _) _=w*(_+_+_);rw[CI,CI,JN,JN]
def dZ.i (k:m):dZ.D c1 dA ⟨k,[],[]⟩=k:=(jg _).trans (jg k)
def yh (a:dZ):(a.a (-1)).D c1 dA= -a.D c1 dA:=(dZ.r _ a).trans (Int.neg_eq_neg_one_mul _).symm
theorem d8.aa (e:d8):e.C.D c1 dA=((e.D c1:j):m):=by
 induction e with
 |u i=>exact((jg _).trans (uO _)).trans ((CE i _).trans (K7 c1 i))
 |y k=>exact dZ.i _
 |b x a p q=>exact((dZ.e x.C a.C).trans (cp (·+_) p)).trans (cp (_+·) q)
 |f k x p=>exact((dZ.r k x.C).trans (cp ((k:m)*·) p)).trans (Int.natCast_mul k (x.D c1)).symm
theorem eN.aa (e:eN):e.C.D c1 dA=e.D c1 dA:=by
 induction e with
 |u i=>exact(uO _).trans (CE i dA)
 |y k=>exact dZ.i _
 |g x p=>exact(yh x.C).trans (cp (-·) p)
 |b x a p q=>exact((dZ.e x.C a.C).trans (cp (·+_) p)).trans (cp (_+·) q)
 |c x a p q=>exact((dZ.e x.C (a.C.a (-1))).trans (cp (·+_) p)).trans (cp (_+·) ((yh a.C).trans (cp (-·) q)))
 |f k x p=>exact(dZ.r k x.C).trans (cp ((k:m)*·) p)
 |d x=>exact x.aa
theorem s1 (k:m)(a:gD.D c1 dA=d)(b:jM.D c1 dA=o):(bz gD jM k).D c1 dA=d-o+k:=by subst a b;exact((dZ.e (gD.b (jM.a (-1))) ⟨k,[],[]⟩).trans (cp (_+·) (dZ.i k))).trans (cp (·+k) ((dZ.e gD (jM.a (-1))).trans (cp (_+·) (yh jM))))
def CJ (N:n j)(Z:cI)(x:bm×dZ):Prop:=(x.1=af->x.2.D N Z=0)/\0<=x.2.D N Z
def m4 (N:n j)(Z:cI)(l:jj):Prop:=∀x∈l,CJ N Z x
def ew (k:0<=gD.D c1 dA):m4 c1 dA [(aN,gD)]:= λx a=>by rw[cz.mp a];exact⟨λh=>(by injection h),k⟩
def K8 (k:gD.D c1 dA=0):m4 c1 dA [(af,gD)]:= λx a=>by rw[cz.mp a];exact⟨λb=>k,BY k.symm⟩
def pW:m4 c1 dA []:= λx a=>nomatch a
def hz (p:m4 c1 dA s2)(q:m4 c1 dA CK):m4 c1 dA (s2++CK):= λx h=>(et.mp h).elim (p x) (q x)
def pX (N:n j)(Z:cI)(P:Prop)(l:jj×jj):Prop:=(P->m4 N Z l.1)/\(¬P->m4 N Z l.2)
def CL (a:gD.D c1 dA=d)(b:jM.D c1 dA=o):pX c1 dA (d<=o) ([(aN,bz jM gD 0)],[(aN,bz gD jM (-1))]):=
 ⟨λh=>ew (s1 0 b a▸(jg _).symm▸sx h),λh=>ew (s1 (-1) a b▸sx (Int.sub_pos_of_lt (BZ.mp h)))⟩
def CM (a:gD.D c1 dA=d)(b:jM.D c1 dA=o):pX c1 dA (d<o) ([(aN,bz jM gD (-1))],[(aN,bz gD jM 0)]):=
 ⟨λh=>ew (s1 (-1) b a▸sx (Int.sub_pos_of_lt h)),λh=>ew (s1 0 a b▸(jg _).symm▸sx (lz.mp h))⟩
def CN (a:gD.D c1 dA=d)(b:jM.D c1 dA=o):pX c1 dA (d=o) ([(af,bz jM gD 0)],[]):=
 ⟨λh=>K8 ((s1 0 b a).trans ((jg _).trans (Int.sub_eq_zero_of_eq h.symm))),λc=>pW⟩
def pX.W {l:jj×jj}(e:dr↔aV)(h:pX c1 dA aV l):pX c1 dA dr l:=⟨λp=>h.1 (e.mp p),λp=>h.2 λq=>p (e.mpr q)⟩
theorem cf.aa (f:cf):pX c1 dA (f.D c1 dA) f.C:=by
 induction f with
 |le x y=>exact .W ov.symm (CL x.aa y.aa)
 |lt x y=>exact .W nB.symm (CM x.aa y.aa)
 |l x y=>exact .W Int.ofNat_inj.symm (CN x.aa y.aa)
 |a x y=>exact CL x.aa y.aa
 |Lt x y=>exact CM x.aa y.aa
 |Eq x y=>exact CN x.aa y.aa
 |b c d=>exact⟨d.2,λh=>d.1 (Classical.not_not.mp h)⟩
 |e c d p q=>exact⟨λh=>hz (p.1 h.1) (q.1 h.2),λg=>pW⟩
 |K c d p q=>exact⟨λg=>pW,λh=>hz (p.2 λk=>h (.inl k)) (q.2 λk=>h (.inr k))⟩
 |F=>exact⟨λg=>pW,λg=>pW⟩
def K9 (i:m):0<=vl aN i:=by
 induction i using Int.casesOn with
 |ofNat k=>exact ow k
 |negSucc k=>exact g2 0
theorem K' {x:bm×dZ}(h:CJ c1 dA x)(i:m):0<=vl x.1 i*x.2.D c1 dA:=by
 induction x using uP with|mk b t=>
 induction b using fD with
 |true=>rw[h.1 aa,JM];exact g2 0
 |false=>exact Int.mul_nonneg (K9 i) h.2
theorem La (a:jj)(w:cI)(h:m4 c1 dA a):0<=(cJ a w).D c1 dA:=by
 induction a generalizing w with
 |nil=>exact BY (dZ.i 0).symm
 |cons x l b=>
  induction w using cv with
  |nil=>exact BY (dZ.i 0).symm
  |cons i v=>exact jh (q9 (K' (h x (.head _)) i) (b v λy c=>h y (.tail _ c))) (BY ((dZ.e (x.2.a (vl x.1 i)) (cJ l v)).trans (cp (·+_) (dZ.r _ x.2))).symm)
theorem Lb (h:CC dA=af):∀c1,hj dA (c4 c1)<=0:=by
 induction dA with
 |nil=>intro c1;exact g2 0
 |cons x l a=>
  intro c1;induction c1 using cv with
  |nil=>exact g2 0
  |cons n c1=>exact Int.add_nonpos (Int.mul_nonpos_of_nonpos_of_nonneg (dT (k5 h).1) (ow n)) (a (k5 h).2 c1)
theorem Lc (h:CD dA=af):∀c1,hj dA c1=0:=by
 induction dA with
 |nil=>intro c1;rfl
 |cons x l a=>
  intro c1;induction c1 using cv with
  |nil=>rfl
  |cons n c1=>show x*n+hj l c1=0;rw[dT (k5 h).1,a (k5 h).2 c1,Int.zero_mul];rfl
theorem Ld (h:gD.l=af)(k:0<=gD.D c1 dA):False:=by have a:=k5 (k5 h).2;have k:0<=gD.L+hj gD.y (c4 c1)+hj gD.ab dA:=k;rw[Lc a.2 dA,jg]at k;exact lz.mpr k (B0 (Int.add_lt_add_of_lt_of_le (dT (k5 h).1) (Lb a.1 c1)) (g2 _))
def lH {g:cf}(h:(cJ (g.C.2++s2) Le).l=af)(k:m4 c1 dA s2):g.D c1 dA:=
 Classical.byContradiction λn=>Ld h (La _ _ (hz (g.aa.2 n) k))
end Mine.Internal.Ar
namespace Mine.Internal
section
open Ar
noncomputable def cc:n Int:=[1,1,1,1,1,1,1,1,1,1,1,1]
def pY (N:n j)(Z:n m)(g:cf)(w:n m)(h:(cJ (g.C.2++[]) w).l=true:=by exact rfl):g.D N Z:=
 lH h pW
def jk (N:n j)(Z:n m)(g:cf)(h:(cJ (g.C.2++[]) cc).l=true:=by exact rfl):g.D N Z:=
 lH h pW
def go (N:n j)(Z:n m)(g a:cf)(w:n m)(b:a.D N Z)(h:(cJ (g.C.2++a.C.1) w).l=true:=by exact rfl):g.D N Z:=
 lH h (a.aa.1 b)
def gp (N:n j)(Z:n m)(g a:cf)(b:a.D N Z)(h:(cJ (g.C.2++a.C.1) cc).l=true:=by exact rfl):g.D N Z:=
 lH h (a.aa.1 b)
def g5 (N:n j)(Z:n m)(g a b:cf)(w:n m)(c:a.D N Z)(d:b.D N Z)(h:(cJ (g.C.2++(a.C.1++b.C.1)) w).l=true:=by exact rfl):g.D N Z:=
 lH h (hz (a.aa.1 c) (b.aa.1 d))
def hA (N:n j)(Z:n m)(g a b:cf)(c:a.D N Z)(d:b.D N Z)(h:(cJ (g.C.2++(a.C.1++b.C.1)) cc).l=true:=by exact rfl):g.D N Z:=
 lH h (hz (a.aa.1 c) (b.aa.1 d))
theorem gE (N:n j)(Z:n m)(g a b c:cf)(w:n m)(d:a.D N Z)(e:b.D N Z)(f:c.D N Z)(h:(cJ (g.C.2++(a.C.1++(b.C.1++c.C.1))) w).l=true:=by exact rfl):g.D N Z:=
 lH h (hz (a.aa.1 d) (hz (b.aa.1 e) (c.aa.1 f)))
def hB (N:n j)(Z:n m)(g a b c:cf)(d:a.D N Z)(e:b.D N Z)(f:c.D N Z)(h:(cJ (g.C.2++(a.C.1++(b.C.1++c.C.1))) cc).l=true:=by exact rfl):g.D N Z:=
 lH h (hz (a.aa.1 d) (hz (b.aa.1 e) (c.aa.1 f)))
theorem lI (N:n j)(Z:n m)(g a b c d:cf)(w:n m)(e:a.D N Z)(f:b.D N Z)(i:c.D N Z)(k:d.D N Z)(h:(cJ (g.C.2++(a.C.1++(b.C.1++(c.C.1++d.C.1)))) w).l=true:=by exact rfl):g.D N Z:=
 lH h (hz (a.aa.1 e) (hz (b.aa.1 f) (hz (c.aa.1 i) (d.aa.1 k))))
theorem aiR (N:n j)(Z:n m)(g a b c d:cf)(e:a.D N Z)(f:b.D N Z)(i:c.D N Z)(k:d.D N Z)(h:(cJ (g.C.2++(a.C.1++(b.C.1++(c.C.1++d.C.1)))) cc).l=true:=by exact rfl):g.D N Z:=
 lH h (hz (a.aa.1 e) (hz (b.aa.1 f) (hz (c.aa.1 i) (d.aa.1 k))))
theorem m5 (N:n j)(Z:n m)(g a b c d e:cf)(w:n m)(f:a.D N Z)(i:b.D N Z)(k:c.D N Z)(l:d.D N Z)(o:e.D N Z)(h:(cJ (g.C.2++(a.C.1++(b.C.1++(c.C.1++(d.C.1++e.C.1))))) w).l=true:=by exact rfl):g.D N Z:=
 lH h (hz (a.aa.1 f) (hz (b.aa.1 i) (hz (c.aa.1 k) (hz (d.aa.1 l) (e.aa.1 o)))))
theorem CO (N:n j)(Z:n m)(g a b c d e:cf)(f:a.D N Z)(i:b.D N Z)(k:c.D N Z)(l:d.D N Z)(o:e.D N Z)(h:(cJ (g.C.2++(a.C.1++(b.C.1++(c.C.1++(d.C.1++e.C.1))))) cc).l=true:=by exact rfl):g.D N Z:=
 lH h (hz (a.aa.1 f) (hz (b.aa.1 i) (hz (c.aa.1 k) (hz (d.aa.1 l) (e.aa.1 o)))))
variable{bs rs:bm}
def gg (h:(bs&&rs)=af):bs=af/\rs=true:=(fu bs rs).mp h
theorem Lf (N:n j)(Z:n m)(x y:d8)(w v:n m)(h:((cJ ((cf.le x y).C.2++[]) w).l&&(cJ ((cf.le y x).C.2++[]) v).l)=true:=by exact rfl):x.D N=y.D N:=
 kB (pY N Z (.le x y) w (gg h).1) (pY N Z (.le y x) v (gg h).2)
def rt (N:n j)(Z:n m)(x y:d8)(h:((cJ ((cf.le x y).C.2++[]) cc).l&&(cJ ((cf.le y x).C.2++[]) cc).l)=true:=by exact rfl):x.D N=y.D N:=
 Lf N Z x y cc cc h
theorem m6 (N:n j)(Z:n m)(x y:d8)(a:cf)(w v:n m)(b:a.D N Z)(h:((cJ ((cf.le x y).C.2++a.C.1) w).l&&(cJ ((cf.le y x).C.2++a.C.1) v).l)=true:=by exact rfl):x.D N=y.D N:=
 kB (go N Z (.le x y) a w b (gg h).1) (go N Z (.le y x) a v b (gg h).2)
def aiS (N:n j)(Z:n m)(x y:d8)(a:cf)(b:a.D N Z)(h:((cJ ((cf.le x y).C.2++a.C.1) cc).l&&(cJ ((cf.le y x).C.2++a.C.1) cc).l)=true:=by exact rfl):x.D N=y.D N:=
 m6 N Z x y a cc cc b h
theorem s3 (N:n j)(Z:n m)(x y:d8)(a b:cf)(w v:n m)(c:a.D N Z)(d:b.D N Z)(h:((cJ ((cf.le x y).C.2++(a.C.1++b.C.1)) w).l&&(cJ ((cf.le y x).C.2++(a.C.1++b.C.1)) v).l)=true:=by exact rfl):x.D N=y.D N:=
 kB (g5 N Z (.le x y) a b w c d (gg h).1) (g5 N Z (.le y x) a b v c d (gg h).2)
theorem aiT (N:n j)(Z:n m)(x y:d8)(a b:cf)(c:a.D N Z)(d:b.D N Z)(h:((cJ ((cf.le x y).C.2++(a.C.1++b.C.1)) cc).l&&(cJ ((cf.le y x).C.2++(a.C.1++b.C.1)) cc).l)=true:=by exact rfl):x.D N=y.D N:=
 s3 N Z x y a b cc cc c d h
theorem CP (N:n j)(Z:n m)(x y:d8)(a b c:cf)(w v:n m)(d:a.D N Z)(e:b.D N Z)(f:c.D N Z)(h:((cJ ((cf.le x y).C.2++(a.C.1++(b.C.1++c.C.1))) w).l&&(cJ ((cf.le y x).C.2++(a.C.1++(b.C.1++c.C.1))) v).l)=true:=by exact rfl):x.D N=y.D N:=
 kB (gE N Z (.le x y) a b c w d e f (gg h).1) (gE N Z (.le y x) a b c v d e f (gg h).2)
theorem aiU (N:n j)(Z:n m)(x y:d8)(a b c:cf)(d:a.D N Z)(e:b.D N Z)(f:c.D N Z)(h:((cJ ((cf.le x y).C.2++(a.C.1++(b.C.1++c.C.1))) cc).l&&(cJ ((cf.le y x).C.2++(a.C.1++(b.C.1++c.C.1))) cc).l)=true:=by exact rfl):x.D N=y.D N:=
 CP N Z x y a b c cc cc d e f h
theorem yi (N:n j)(Z:n m)(x y:d8)(a b c d:cf)(w v:n m)(e:a.D N Z)(f:b.D N Z)(g:c.D N Z)(i:d.D N Z)(h:((cJ ((cf.le x y).C.2++(a.C.1++(b.C.1++(c.C.1++d.C.1)))) w).l&&(cJ ((cf.le y x).C.2++(a.C.1++(b.C.1++(c.C.1++d.C.1)))) v).l)=true:=by exact rfl):x.D N=y.D N:=
 kB (lI N Z (.le x y) a b c d w e f g i (gg h).1) (lI N Z (.le y x) a b c d v e f g i (gg h).2)
theorem aiV (N:n j)(Z:n m)(x y:d8)(a b c d:cf)(e:a.D N Z)(f:b.D N Z)(g:c.D N Z)(i:d.D N Z)(h:((cJ ((cf.le x y).C.2++(a.C.1++(b.C.1++(c.C.1++d.C.1)))) cc).l&&(cJ ((cf.le y x).C.2++(a.C.1++(b.C.1++(c.C.1++d.C.1)))) cc).l)=true:=by exact rfl):x.D N=y.D N:=
 yi N Z x y a b c d cc cc e f g i h
theorem Lg (N:n j)(Z:n m)(x y:eN)(w v:n m)(h:((cJ ((cf.a x y).C.2++[]) w).l&&(cJ ((cf.a y x).C.2++[]) v).l)=true:=by exact rfl):x.D N Z=y.D N Z:=
 lA (pY N Z (.a x y) w (gg h).1) (pY N Z (.a y x) v (gg h).2)
def mi (N:n j)(Z:n m)(x y:eN)(h:((cJ ((cf.a x y).C.2++[]) cc).l&&(cJ ((cf.a y x).C.2++[]) cc).l)=true:=by exact rfl):x.D N Z=y.D N Z:=
 Lg N Z x y cc cc h
theorem CQ (N:n j)(Z:n m)(x y:eN)(a:cf)(w v:n m)(b:a.D N Z)(h:((cJ ((cf.a x y).C.2++a.C.1) w).l&&(cJ ((cf.a y x).C.2++a.C.1) v).l)=true:=by exact rfl):x.D N Z=y.D N Z:=
 lA (go N Z (.a x y) a w b (gg h).1) (go N Z (.a y x) a v b (gg h).2)
def aiW (N:n j)(Z:n m)(x y:eN)(a:cf)(b:a.D N Z)(h:((cJ ((cf.a x y).C.2++a.C.1) cc).l&&(cJ ((cf.a y x).C.2++a.C.1) cc).l)=true:=by exact rfl):x.D N Z=y.D N Z:=
 CQ N Z x y a cc cc b h
theorem CR (N:n j)(Z:n m)(x y:eN)(a b:cf)(w v:n m)(c:a.D N Z)(d:b.D N Z)(h:((cJ ((cf.a x y).C.2++(a.C.1++b.C.1)) w).l&&(cJ ((cf.a y x).C.2++(a.C.1++b.C.1)) v).l)=true:=by exact rfl):x.D N Z=y.D N Z:=
 lA (g5 N Z (.a x y) a b w c d (gg h).1) (g5 N Z (.a y x) a b v c d (gg h).2)
theorem aiX (N:n j)(Z:n m)(x y:eN)(a b:cf)(c:a.D N Z)(d:b.D N Z)(h:((cJ ((cf.a x y).C.2++(a.C.1++b.C.1)) cc).l&&(cJ ((cf.a y x).C.2++(a.C.1++b.C.1)) cc).l)=true:=by exact rfl):x.D N Z=y.D N Z:=
 CR N Z x y a b cc cc c d h
end
section
open Ar
variable{f z aK bf:j}{d o:m}
def k6 (a b:d8)(c:cf)(w v:n m)(d:c.D [f,z] [])(h:((cJ ((cf.le a b).C.2++c.C.1) w).l&&(cJ ((cf.le b a).C.2++c.C.1) v).l)=true:=by exact rfl):a.D [f,z]=b.D [f,z]:=m6 _ _ a b c w v d h
def k7 (g:cf)(w:n m)(h:(cJ (g.C.2++[]) w).l=true:=by exact rfl):g.D [f] []:=pY _ _ g w h
def lJ (g a:cf)(w:n m)(b:a.D [f] [])(h:(cJ (g.C.2++a.C.1) w).l=true:=by exact rfl):g.D [f] []:=go _ _ g a w b h
def jN (g a:cf)(w:n m)(b:a.D [f,z] [])(h:(cJ (g.C.2++a.C.1) w).l=true:=by exact rfl):g.D [f,z] []:=go _ _ g a w b h
def iG (g a:cf)(w:n m)(b:a.D [f,z,aK] [])(h:(cJ (g.C.2++a.C.1) w).l=true:=by exact rfl):g.D [f,z,aK] []:=go _ _ g a w b h
def lK (g a b:cf)(w:n m)(c:a.D [f,z] [])(d:b.D [f,z] [])(h:(cJ (g.C.2++(a.C.1++b.C.1)) w).l=true:=by exact rfl):g.D [f,z] []:=g5 _ _ g a b w c d h
def g6 (g a b:cf)(w:n m)(c:a.D [f,z,aK] [])(d:b.D [f,z,aK] [])(h:(cJ (g.C.2++(a.C.1++b.C.1)) w).l=true:=by exact rfl):g.D [f,z,aK] []:=g5 _ _ g a b w c d h
def m7 (a b:d8)(h:((cJ ((cf.le a b).C.2++[]) cc).l&&(cJ ((cf.le b a).C.2++[]) cc).l)=true:=by exact rfl):a.D [f,z]=b.D [f,z]:=rt _ [] a b h
def k8 (g:cf)(h:(cJ (g.C.2++[]) cc).l=true:=by exact rfl):g.D [] [d]:=jk _ _ g h
def em (g:cf)(h:(cJ (g.C.2++[]) cc).l=true:=by exact rfl):g.D [f] []:=jk _ _ g h
def jl (g:cf)(h:(cJ (g.C.2++[]) cc).l=true:=by exact rfl):g.D [f,z] []:=jk _ _ g h
def hO (g a:cf)(b:a.D [] [d])(h:(cJ (g.C.2++a.C.1) cc).l=true:=by exact rfl):g.D [] [d]:=gp _ _ g a b h
def k9 (g a:cf)(b:a.D [] [d,o])(h:(cJ (g.C.2++a.C.1) cc).l=true:=by exact rfl):g.D [] [d,o]:=gp _ _ g a b h
def ec (g a:cf)(b:a.D [f] [])(h:(cJ (g.C.2++a.C.1) cc).l=true:=by exact rfl):g.D [f] []:=gp _ _ g a b h
def ck (g a:cf)(b:a.D [f,z] [])(h:(cJ (g.C.2++a.C.1) cc).l=true:=by exact rfl):g.D [f,z] []:=gp _ _ g a b h
def ex (g a:cf)(b:a.D [f,z,aK] [])(h:(cJ (g.C.2++a.C.1) cc).l=true:=by exact rfl):g.D [f,z,aK] []:=gp _ _ g a b h
def k' (g a b:cf)(c:a.D [f,z] [])(d:b.D [f,z] [])(h:(cJ (g.C.2++(a.C.1++b.C.1)) cc).l=true:=by exact rfl):g.D [f,z] []:=hA _ _ g a b c d h
def fE (g a b:cf)(c:a.D [f,z,aK] [])(d:b.D [f,z,aK] [])(h:(cJ (g.C.2++(a.C.1++b.C.1)) cc).l=true:=by exact rfl):g.D [f,z,aK] []:=hA _ _ g a b c d h
def kc (g a b:cf)(c:a.D [f,z,aK,bf] [])(d:b.D [f,z,aK,bf] [])(h:(cJ (g.C.2++(a.C.1++b.C.1)) cc).l=true:=by exact rfl):g.D [f,z,aK,bf] []:=hA _ _ g a b c d h
end
variable{d o B J aF bo jD ky sq:m}{f z aK bf el h7 iZ gR CV CW:j}{aV dr fn gF hP jm kd m9 oL ry vm C0:Prop}{eo:e9}{a9 ib:aH}{cM lh DE:fS}
def s4 (a:0<=d+f)(b:d<=f):d.natAbs<=f:=by refine(Int.natAbs_eq d).elim (λe=>ov.mp (e▸b)) λe=>ov.mp (Int.le_of_sub_nonneg ?_);rw[Int.sub_eq_add_neg,<-e,Int.add_comm];exact a
theorem yj (h:d.natAbs<=f):0<=d+f/\d<=f:=by
 have h:(d.natAbs:m)<=f:=ov.mpr h;have a:(((-d).natAbs:j):m)<=f:=by rw[Int.natAbs_neg];exact h
 refine⟨?_,jh Int.le_natAbs h⟩;have:=sx (jh Int.le_natAbs a);rw[Int.sub_neg,Int.add_comm]at this;exact this
def Lh (e:d=f)(a:d<=o)(b:o<4294967296):d % 4294967296=f:=(JO (e▸ow f) (uQ a b)).trans e
theorem Li (h: -200<=d-o/\d-o<=200)(a:o<=B)(b:B-o<=100)(c:¬(o<=d/\d<=B)):((B+1-o).toNat:m)<=(d-o) % 4294967296:=by
 rw[lB (show 0<=B+1-o from k9 (.a .K (.c (.b .a .r) .e)) (.a .e .a) a)];by_cases z:o<=d
 ·rw[JO (sx z) (show d-o<4294967296 from k9 (.Lt (.c .a .e) (.y 4294967296)) (.a (.c .a .e) (.y 200)) h.2)];exact gp [] [_,_,_] (.a (.c (.b .e .r) .l) (.c .a .l)) (.Lt .e .a) (BZ.mp λq=>c ⟨z,q⟩)
 ·rw[<-Int.add_emod_right,JO (show 0<=d-o+4294967296 from k9 (.a .K (.b (.c .a .e) (.y 4294967296))) (.a (.g (.y 200)) (.c .a .e)) h.1) (show d-o+4294967296<4294967296 from k9 (.Lt (.b (.c .a .e) (.y 4294967296)) (.y 4294967296)) (.Lt .a .e) (BZ.mp z))];exact hA [] [_,_,_] (.a (.c (.b .a .r) .e) (.b (.c .l .e) (.y 4294967296))) (.a (.c .a .e) (.y 100)) (.a (.g (.y 200)) (.c .l .e)) b h.1
def Lj (h:f<d.toNat)(k:d<=z):f<z:=iT h (JP.mpr k)
def Lk (h:d=d+1):False:=JQ (uR d) h
theorem toaeS (k:z<=bf+el)(h:bf<=6*aK)(l:aK<=285)(q:el<aK)(g:f+(100000-10*z)<=100000):f+1<=90000:=by have u:z<=1994:=lI [_,_,_,_] [] (.le .a (.y 1994)) (.le .a (.b .e .l)) (.le .e (.f 6 .s)) (.le .s (.y 285)) (.lt .l .s) [1,1,1,7,1] k h l q;have v:10*z<=19940:=pK 10 u;exact aU (gy (aU (Nat.le_of_add_le_add_right (aU g (he (sy (aU v ⋯)).symm))) v)) ⋯
def Ll (e:f=bf)(a:el<aK+(z-bf))(q:¬el<aK):f+(el-aK)<z:=by subst e;obtain⟨d,rfl⟩:=Nat.exists_eq_add_of_le (lC q);rw[ox,xN];exact ah0 (Nat.lt_of_add_lt_add_left a)
def Lm (e:h7=f+(aK-z))(l:iZ=f+(bf-el))(a:aK<bf)(b:z<=aK)(c:z=el):h7<iZ:=by subst e l c;exact JR (Nat.sub_lt_sub_right b a) f
def CT (h:d<=5):(d-1).toNat<5:=mU (JP.mpr (hO (.a (.c .a .r) (.y 4)) (.a .a (.y 5)) h))
def CU (h:¬0<=d-1):d.toNat=0/\(d-1).toNat=0:=⟨JS (hO (.a .a .K) (.b (.a .K (.c .a .r))) h),JS (hO (.a (.c .a .r) .K) (.b (.a .K (.c .a .r))) h)⟩
def Ln (h:0<=d)(k:d<2):d=0\/d=1:=(Int.lt_or_le 0 d).elim (λz=>.inr (lA (Int.le_of_lt_add_one k) z)) λz=>.inl (lA z h)
def Lo:(if d<o then o-d else 0)=((o-d).toNat:m)-((0:j):m):=by
 by_cases z:d<o
 ·rw[cP z,lB (sx (mc z))];exact(Int.sub_zero _).symm
 ·rw[ce z,JS (Int.sub_nonpos_of_le (lz.mp z))];rfl
theorem Lp (a:f=z+aK)(b:aK=bf)(c:bf<=el)(d:el<=h7)(e:h7<=12)(g:z=iZ+gR)(h:gR<=1)(i:iZ+(80+CV+CW)<=700000):f+(CV+8+CW)<=700000:=by subst a b g;exact CO [_,_,_,_,_,_,_] [] (.le (.b (.b (.b .a .e) .l) (.b (.b .s (.y 8)) .X)) (.y 700000)) (.le .l .ab) (.le .ab (.u 6)) (.le (.u 6) (.y 12)) (.le .e .r) (.le (.b .a (.b (.b (.y 80) .s) .X)) (.y 700000)) c d e h i
def oK (h:d=o\/d=B\/d=J)(a:o≠aF)(b:B≠aF)(c:J≠aF):d≠aF:= λe=>h.elim (λh=>a (h▸e)) λh=>h.elim (λh=>b (h▸e)) λh=>c (h▸e)
theorem CX (h:(d=7\/d=9)/\(o=7\/o=9\/o=12\/o=16)\/d=16/\(o=7\/o=9\/o=16)\/d=13/\o=12)(n:o≠12):(d=7\/d=9\/d=16)/\(o=7\/o=9\/o=16):=
 h.elim (λh=>⟨h.1.imp id .inl,h.2.imp id λq=>q.imp id λq=>q.resolve_left n⟩) λh=>h.elim (λh=>⟨.inr (.inr h.1),h.2⟩) λh=>b6 h.2 n
def CY (h:f+1+64<aK)(k:z<=6):f+1+z<aK:=fE (.lt (.b (.b .a .r) .e) .l) (.lt (.b (.b .a .r) (.y 64)) .l) (.le .e (.y 6)) h k
def Lq (h:f<8)(k:4<(f:m)):(f:m)=5\/(f:m)=6\/(f:m)=7:=by have k:4<f:=nB.mp k;revert f;decide
def Lr (h:aV/\(o=7\/o=9\/o=12\/o=16)\/dr/\(o=7\/o=9\/o=16)\/d=13/\o=12):o=7\/o=9\/o=12\/o=16:=
 h.elim B1 λh=>h.elim (λh=>h.2.imp id λh=>h.imp id .inr) λh=>.inr (.inr (.inl h.2))
set_option genCtorIdx true
set_option genCtorIdx false
abbrev aO:=n (m×m)
abbrev cd:=n j
abbrev bk:=n m
def bd (h:aV/\dr)(k:aV->dr->fn):fn:=k h.1 h.2
def bu {c:Sort _}{b:c->Prop}(h:∃a,b a)(k:∀a,b a->aV):aV:=h.elim λa h=>k a h
def c9 (h:aV/\dr/\fn)(k:aV->dr->fn->gF):gF:=k h.1 h.2.1 h.2.2
def aL {d:Sort _}{b c:d->Prop}(h:∃a,b a/\c a)(k:∀a,b a->c a->aV):aV:=h.elim λa h=>k a h.1 h.2
def eO {d e:Sort _}{c:d->e->Prop}(h:∃a b,c a b)(k:∀a b,c a b->aV):aV:=h.elim λa h=>h.elim λb h=>k a b h
def lL (h:aV/\dr/\fn/\gF)(k:aV->dr->fn->gF->hP):hP:=k h.1 h.2.1 h.2.2.1 h.2.2.2
def dU {e:Sort _}{b c d:e->Prop}(h:∃a,b a/\c a/\d a)(k:∀a,b a->c a->d a->aV):aV:=h.elim λa h=>k a h.1 h.2.1 h.2.2
def gq {e f:Sort _}{c d:e->f->Prop}(h:∃a b,c a b/\d a b)(k:∀a b,c a b->d a b->aV):aV:=h.elim λa h=>h.elim λb h=>k a b h.1 h.2
def m8 {f:Sort _}{b c d e:f->Prop}(h:∃a,b a/\c a/\d a/\e a)(k:∀a,b a->c a->d a->e a->aV):aV:=h.elim λa h=>k a h.1 h.2.1 h.2.2.1 h.2.2.2
def d0 {f g:Sort _}{c d e:f->g->Prop}(h:∃a b,c a b/\d a b/\e a b)(k:∀a b,c a b->d a b->e a b->aV):aV:=h.elim λa h=>h.elim λb h=>k a b h.1 h.2.1 h.2.2
def nJ {f g i:Sort _}{d e:f->g->i->Prop}(h:∃a b c,d a b c/\e a b c)(k:∀a b c,d a b c->e a b c->aV):aV:=h.elim λa h=>h.elim λb h=>h.elim λc h=>k a b c h.1 h.2
def nK (h:aV/\dr/\fn/\gF/\hP/\jm)(k:aV->dr->fn->gF->hP->jm->kd):kd:=k h.1 h.2.1 h.2.2.1 h.2.2.2.1 h.2.2.2.2.1 h.2.2.2.2.2
def gG {g i:Sort _}{c d e f:g->i->Prop}(h:∃a b,c a b/\d a b/\e a b/\f a b)(k:∀a b,c a b->d a b->e a b->f a b->aV):aV:=h.elim λa h=>h.elim λb h=>k a b h.1 h.2.1 h.2.2.1 h.2.2.2
def i0 {g i j:Sort _}{d e f:g->i->j->Prop}(h:∃a b c,d a b c/\e a b c/\f a b c)(k:∀a b c,d a b c->e a b c->f a b c->aV):aV:=h.elim λa h=>h.elim λb h=>h.elim λc h=>k a b c h.1 h.2.1 h.2.2
theorem ru {i j:Sort _}{c d e f g:i->j->Prop}(h:∃a b,c a b/\d a b/\e a b/\f a b/\g a b)(k:∀a b,c a b->d a b->e a b->f a b->g a b->aV):aV:=h.elim λa h=>h.elim λb h=>k a b h.1 h.2.1 h.2.2.1 h.2.2.2.1 h.2.2.2.2
theorem ke {i j l:Sort _}{d e f g:i->j->l->Prop}(h:∃a b c,d a b c/\e a b c/\f a b c/\g a b c)(k:∀a b c,d a b c->e a b c->f a b c->g a b c->aV):aV:=h.elim λa h=>h.elim λb h=>h.elim λc h=>k a b c h.1 h.2.1 h.2.2.1 h.2.2.2
theorem nL {j l m n:Sort _}{e f g i:j->l->m->n->Prop}(h:∃a b c d,e a b c d/\f a b c d/\g a b c d/\i a b c d)(k:∀a b c d,e a b c d->f a b c d->g a b c d->i a b c d->aV):aV:=h.elim λa h=>h.elim λb h=>h.elim λc h=>h.elim λd h=>k a b c d h.1 h.2.1 h.2.2.1 h.2.2.2
def aY {c:Type _}{a b:c}(h:O a=O b):a=b:=JT h
@[elab_as_elim]def bR {c:Sort _}{a b:c}{P:c->Prop}(e:a=b)(h:P b):P a:=e▸h
@[elab_as_elim]def bS {c:Sort _}{a b:c}{P:c->Prop}(e:b=a)(h:P b):P a:=e▸h
def ey (q:fn):aV\/dr\/fn:=.inr (.inr q)
def mj (q:gF):aV\/dr\/fn\/gF:=.inr (ey q)
def nM (q:hP):aV\/dr\/fn\/gF\/hP:=.inr (mj q)
def rv (q:jm):aV\/dr\/fn\/gF\/hP\/jm:=.inr (nM q)
def pZ (q:kd):aV\/dr\/fn\/gF\/hP\/jm\/kd:=.inr (rv q)
def rx (q:m9):aV\/dr\/fn\/gF\/hP\/jm\/kd\/m9:=.inr (pZ q)
def s5 (q:oL):aV\/dr\/fn\/gF\/hP\/jm\/kd\/m9\/oL:=.inr (rx q)
def s6 (q:ry):aV\/dr\/fn\/gF\/hP\/jm\/kd\/m9\/oL\/ry:=.inr (s5 q)
def CZ (q:vm):aV\/dr\/fn\/gF\/hP\/jm\/kd\/m9\/oL\/ry\/vm:=.inr (s6 q)
def Ls (q:C0):aV\/dr\/fn\/gF\/hP\/jm\/kd\/m9\/oL\/ry\/vm\/C0:=.inr (CZ q)
open PySem PySem.W PyProof.Rows
set_option maxRecDepth 100000
noncomputable abbrev e':Program:=PySem.Challenge.pw_sy0013_01
def C1 (l:n g3):n g3×n Obj:=l.rec ([],[]) λa b p=>(a::p.2,p.1)
def Lu (l:n g3):n Obj:=(C1 l).1
def Lv (l:n g3):n Obj:=(C1 l).2
def jO (c:j)(l:n g3):BT:=c.rec (motive:= λb=>n g3->BT) (λb=>.nil) (λb f l=>l.casesOn .nil λa r=>.node a (f (Lu r)) (f (Lv r))) l
noncomputable def fe:n Stmt:=behindTheImports e'
noncomputable def hk (i:j):Stmt:=(fe[i]?).getD (.Pass iB)
noncomputable def C2 (s:e0):n Stmt:=if h:s.ctorIdx=2 then JU s h λa a a b a a a a a a a=>b else[]
def yk (i a:j):Stmt:=((C2 (hk i))[a]?).getD (.Pass iB)
noncomputable def lM (s:e0):Str:=if h:s.ctorIdx=0 then xO s h λn a a a a a a a a a=>n else iB
noncomputable def rz (s:e0):Arguments:=if h:s.ctorIdx=0 then xO s h λb a b b b b b b b b=>a else⟨[],[],ab,[],[],ab,[]⟩
noncomputable def s7 (s:e0):n Stmt:=if h:s.ctorIdx=0 then xO s h λa a b a a a a a a a=>b else[]
noncomputable def rA (s:e0):Scope:=if h:s.ctorIdx=0 then xO s h λa a a a a a s a a a=>s else iB
def C3 (s:e0):Nat:=if h:s.ctorIdx=0 then xO s h λa a a a a a a a a p=>p.line else 0
def oM (s:e0):n Str:=((rA s).names.filter λp=>p.2==.local).map (·.1)
noncomputable def aR (i:m)(t:j):Value:=.int i t
noncomputable def a4 (a:j):Value:=.ref a
noncomputable def en (s:aH)(t:j):Value:=.str s t
noncomputable def b7 (l:n ae):Obj:={cls:=.type "tuple",data:=.seq l.toArray}
noncomputable def i1 (l:n ae):Obj:={cls:=.none,data:=.fields l.toArray}
noncomputable def jn (c:String)(l:n ae):Obj:={cls:=.type c,data:=.fields l.toArray}
noncomputable def la (c:ae)(l:n eL)(a:j):Obj:={cls:=c,data:=.dict l.toArray a}
noncomputable def s8 (l:n (Q ae)):Obj:={cls:=.type "frame",slots:=l.toArray}
def lb (n q:aH)(t c d e a:j)(b:bm)(x y z:ae)(u:j):Obj:={cls:=.type "code",data:=.fields #[en n t,en q (t+1),en "/claim/cut.py" (t+2),aR c 0,aR d 0,aR 0 0,aR 0 0,aR e 0,a4 a,.bool b,aR 181 0,a4 (a+1),.none,x,y,z,aR u 0,aR c 0,en "/claim/cut.py" (u+1)]}
def C4 (s:e0)(q:aH):Obj:={cls:=.none,data:=.func {name:=lM s,qualname:=q,params:=rz s,body:=.stmts (s7 s),scope:=rA s,globals:=0,closure:=[],defaults:=.none,kwdefaults:=.none}}
def oN (s:e0):Obj:={cls:=.none,data:=.func {name:=lM s,qualname:=lM s,params:=rz s,body:=.stmts (s7 s),scope:=rA s,globals:=0,closure:=[],defaults:=.none,kwdefaults:=.none}}
def C5 (s:e0)(q:aH)(m:ae)(c:j):Obj:={cls:=.type "function",data:=.func {name:=lM s,qualname:=q,params:=rz s,body:=.stmts (s7 s),scope:=rA s,globals:=3,closure:=[],defaults:=.none,kwdefaults:=.none,pyModule:=m,code:=.ref c}}
def oO (s:e0)(m:ae)(c:j):Obj:={cls:=.type "function",data:=.func {name:=lM s,qualname:=lM s,params:=rz s,body:=.stmts (s7 s),scope:=rA s,globals:=3,closure:=[],defaults:=.none,kwdefaults:=.none,pyModule:=m,code:=.ref c}}
noncomputable def s9 (b:n (Q ae))(a:aH)(c d:n ae)(e:j)(f:n ae):Obj:={cls:=.type "type",data:=.cls {name:=a,bases:=c,mro:=d,ns:=e,qualname:=a,subclasses:=f},slots:=b.toArray}
def dB (P:b5)(k:aH)(t:j)(v:ae):DictEntry:=⟨B2 (P.strHash k.cps),en k t,v⟩
def Lw (t:j)(l:n aH):n Value:=l.rec (motive:= λa=>j->n ae) (λa=>[]) (λs a f t=>en s t::f (t+1)) t
def c' (P:b5)(k:aH)(t a:j):DictEntry:=dB P k t (a4 a)
def C6 (P:b5)(k:aH)(t:j)(i:m):DictEntry:=dB P k t (aR i (t-1))
def vn (P:b5)(f:String->ae)(t:j)(l:n String):n DictEntry:=l.rec (motive:= λa=>j->n eL) (λa=>[]) (λs a g t=>dB P (nC s) t (f s)::g (t+1)) t
def yl (t:j)(l:n aH):Obj:=b7 (Lw t l)
def C7 (s:e0)(q:aH)(a t:j)(x y:g3):n Obj:=[b7 [],i1 [],yl (t+3) (oM s),b7 [],x,lb (lM s) q t (C3 s) (L (rz s).args) 3 a af (a4 (a+2)) (a4 (a+3)) (a4 (a+4)) (t+3+L (oM s)),y]
def i2 (m:ae)(l:n e0):j->j->n Obj:=l.rec (λb b=>[]) λs b f a t=>C7 s (lM s) a t (oN s) (oO s m (a+5))++f (a+7) (t+6+L (oM s))
def vo (m:ae)(c:aH)(l:n e0):j->j->n Obj:=l.rec (λb b=>[]) λs b f a t=>C7 s (c++lM s) a t (C4 s (c++lM s)) (C5 s (c++lM s) m (a+5))++f (a+7) (t+6+L (oM s))
def gS (P:b5)(l:n e0):j->j->n DictEntry:=l.rec (λb b=>[]) λs b f a t=>c' P (lM s) (t+5+L (oM s)) (a+6)::f (a+7) (t+6+L (oM s))
def ym (l:n e0):j->n Value:=l.rec (λb=>[]) λs b f a=>[aR (C3 s) 0,aR 4 0,a4 (a+5)]++f (a+7)
def ff (i k:j):n Stmt:=(fe.drop i).take k
def m' (i k:j):n Stmt:=(C2 (hk i)).take k
def yn (P:b5)(a t:j)(m:ae)(q:aH)(b:j)(c:n eL)(d:j)(x:g3):n Obj:=[b7 [],jn "builtin_function_or_method" [.builtin "type.__prepare__",.type "type"],
 la (.type "dict") (dB P "__module__" t m::dB P "__qualname__" (t+2) (en q (t+1))::dB P "__firstlineno__" (t+4) (aR b (t+3))::c) d,b7 [],x,lb q q (t-5) b 0 0 (a+3) aN .none .none .none (t-2),
 s8 [O (a4 (a+5)),O (a4 3),O (a4 (a+2)),ab,O m,ab,O (a4 0)]]
def C8 (P:b5)(b:ae)(a t:j)(m:ae)(q:aH)(c:j)(d:n eL)(e:j)(x:g3):n Obj:=b7 [b]::(yn P a t m q c d e x).drop 1
def rB (P:b5)(t:j)(a:ae)(b:m)(c:n eL)(d:j):Obj:=la (.type "dict") (dB P "__module__" t a::dB P "__firstlineno__" (t+4) (aR b (t+3))::c) d
def ml (c:aH)(t u a b:j)(l:n ae):Obj:=s9 [ab,ab,O (en c t),O (en c u),O (.builtin "object.__new__"),O (.bool af)] c [.type "object"] [a4 a,.type "object"] b l
def C9 (t a:j):n Obj:=[jn "getset_descriptor" [en "__dict__" t,a4 a,.builtin "function.__dict__",.builtin "function.__dict__#set"],jn "getset_descriptor" [en "__weakref__" (t+2),a4 a,.builtin "ExceptionGroup.__weakref__",.none],jn "super" [a4 a,a4 a,a4 a],jn "builtin_function_or_method" [.builtin "object.__init_subclass__",a4 a]]
def C' (s:e0):Str:=if h:s.ctorIdx=2 then JU s h λn a a a a a a a a a a=>n else iB
def Da (s:e0):Nat:=if h:s.ctorIdx=2 then JU s h λa a a a a a a a a a p=>p.line else 0
def Lx (P:b5)(m:ae)(b a t:j)(c:aH)(d:j)(l:n e0)(k:j):n Obj:=C8 P (a4 b) a t m c d (gS P l (a+7) (t+5)++[c' P "__static_attributes__" (t+11+k) (a+14)]) 5 (i1 (ym l (a+7)))++(vo m (c++".") l (a+7) (t+5)++[b7 [],rB P t m d (gS P l (a+7) (t+5)++[c' P "__static_attributes__" (t+11+k) (a+14),dB P "__doc__" (t+12+k) .none]) 2,
 s9 [O (a4 a),ab,O (en c (t-7)),O (en c (t+1)),O (.builtin "object.__new__"),O (.bool af)] c [a4 b] [a4 (a+16),a4 b,.type "object"] (a+15) [],jn "super" [a4 (a+16),a4 (a+16),a4 (a+16)],jn "builtin_function_or_method" [.builtin "object.__init_subclass__",a4 (a+16)]])
def kH (P:b5)(m:ae)(b i a t:j):n Obj:=Lx P m b a t (C' (hk i)) (Da (hk i)) (m' i 1) (L (oM (yk i 0)))
def Ly (l:n e0)(t:j):Nat:=l.rec t λs a r=>r+6+L (oM s)
def Lz (P:b5)(m:ae)(c:aH)(d:j)(l:n e0)(a t b s:j)(e:n aH)(x:g3):n Obj:=yn P a t m c d (gS P l (a+7) (t+5)++[c' P "__static_attributes__" s b]) (L l+4) (i1 (ym l (a+7)))++(vo m (c++".") l (a+7) (t+5)++([yl (s-L e) e,
 rB P t m d (gS P l (a+7) (t+5)++[c' P "__static_attributes__" s b,c' P "__dict__" (s+2) (b+3),c' P "__weakref__" (s+4) (b+4),dB P "__doc__" (s+5) .none]) 4,x]++C9 (s+1) (b+2)))
def na (P:b5)(m:ae)(i k a t:j)(b:n aH)(x:g3):n Obj:=Lz P m (C' (hk i)) (Da (hk i)) (m' i k) a t (a+7*(k+1)) (Ly (m' i k) (t+5)+L b) b x
def nN:Value:=en "framerune.faults" 187
def vp:Value:=en "framerune.kinds" 252
def vq:Value:=en "framerune.store" 559
def LA:Value:=en "framerune.kindline" 666
def vr:Value:=en "framerune.csnodes" 676
def oP:Value:=en "framerune.csbound" 730
def oQ:Value:=en "framerune.lowcore" 1102
def nO:Value:=en "framerune.lowexpr" 1372
def h8:Value:=en "framerune.lowstmt" 1661
def p0:Value:=en "law_sy0013_01" 2156
def vs (P:b5)(t:j)(l:n (String×m)):n DictEntry:=l.rec (motive:= λa=>j->n eL) (λa=>[]) (λs a g t=>C6 P s.1 t s.2::g (t+2)) t
def LB (P:b5):n DictEntry:=kZ [[dB P "__doc__" 166 .none,
 dB P "__package__" 167 .none,
 dB P "__loader__" 168 (.builtin "__main__.__loader__#opaque"),
 dB P "__spec__" 169 .none,
 c' P "__annotations__" 170 6,
 c' P "__builtins__" 171 4,
 dB P "__file__" 173 (en "/claim/cut.py" 172),
 dB P "__cached__" 174 .none,
 c' P "RuneError" 219 31,
 c' P "BadKind" 235 44,
 c' P "LeftOut" 251 56],
 vs P 255 [("VOID",0),("BOOL",1),("CHAR",2),("I1",3),("U1",4),("I2",5),("U2",6),("I4",7),("U4",8),("I8",9),("U8",10),("NINT",11),("OBJECT",12),("STRING",13),("NULLK",14),("PRIM_END",16),("R_PRIM",1),("R_CLASS",2),("R_VALUE",3),("R_ARRAY",4),("R_BYREF",5),("R_VAR",6),("R_MVAR",7),("R_BOXED",8),("R_ROREF",9),("R_FTN",10),("R_RAW",11),("DEEPEST_KIND",24),("HEAVIEST_KIND",4096)],
 ([c' P "PRIM_TID" 340 59,
 c' P "TID_PRIM" 369 60,
 C6 P "ARRAY_TID" 371 5,
 c' P "KindTable" 428 91]++(gS P (ff 38 15) 96 429)),
 vs P 554 [("CM_STR_EQ",13),("CM_NUL_HASVALUE",66),("CM_NUL_ORDEFAULT",68)],
 vs P 562 [("S_CLASS",1),("S_ENUM",5),("VA_NONE",0),("T_NULLABLE",8)],
 ([c' P "TypeDef" 622 217,
 c' P "Store" 656 238]++(gS P (ff 63 1) 243 657++(gS P (ff 65 1) 250 668++([c' P "Diags" 729 292])))),
 vs P 733 [("X_CONST",1),("X_LOCAL",2),("X_THIS",3),("X_FIELD",4),("X_SFIELD",5),("X_ELEM",6),("X_LEN",7),("X_CALL",8),("X_NEW",9),("X_NEWARR",10),("X_ARRLIT",11),("X_DEFAULT",12),("X_UN",13),("X_BIN",14),("X_AND",15),("X_OR",16),("X_COND",17),("X_COALESCE",18),("X_CONV",19),("X_IS",20),("X_AS",21),("X_ASSIGN",22),("X_COMPOUND",23),("X_DELEG",25),("X_CONCAT",26),("X_LIFT",27),("X_LIFTUN",28),("X_AWAIT",30),("X_SEQ",31),("X_HOLE",32),("X_REF",33),("X_PROP",34),("X_BASECTOR",35),("X_FNREF",36),("CV_NUM",1),("CV_BOX",4),("CV_UNBOX",5),("S_EXPR",1),("S_LOCAL",2),("S_BLOCK",3),("S_IF",4),("S_RETURN",12),("S_THROW",13),("S_YIELD",16),("S_YBREAK",17),("S_EMPTY",18),("S_LABEL",20),("S_GOTO",21),("S_CGOTO",22),("S_TABLE",23),("SL_CONST",1),("SL_DEFAULT",2),("SL_NULL",4),("FN_PLAIN",0),("VF_REF",2),("VF_OUT",4),("VF_TEMP",32),("KS_ONE",1),("KS_MAYBE",2),("KS_ROW",3)],
 ([c' P "KID_PLACES" 921 297,
 c' P "Var" 960 384,
 c' P "Fn" 1002 405,
 c' P "Unit" 1040 426]++(gS P (ff 133 5) 431 1041++([c' P "plug" 1101 470,
 c' P "LowRule" 1132 487,
 c' P "LowStmt" 1161 508,
 c' P "Spiller" 1199 536,
 c' P "Low" 1285 599]++(gS P (ff 144 1) 604 1286++([c' P "low_parts" 1300 615]++(gS P (ff 146 8) 616 1301++([c' P "TRUE" 1375 672]++(gS P (ff 156 3) 673 1376++([c' P "pin_prop" 1419 698]++(gS P (ff 160 1) 699 1420++(gS P (ff 161 15) 706 1427++([c' P "LowIs" 1600 827,
 c' P "LowAs" 1629 846]++(gS P (ff 178 4) 849 1630++(gS P (ff 183 6) 877 1663++([c' P "LowEffect" 1739 935,
 c' P "LowLocal" 1765 954,
 c' P "LowBlock" 1791 973,
 c' P "LowIf" 1818 992,
 c' P "LowReturn" 1844 1011,
 c' P "LowThrow" 1870 1030,
 c' P "LowYield" 1895 1049,
 c' P "LowEmpty" 1920 1068,
 c' P "LowBreak" 1945 1087,
 c' P "LowContinue" 1970 1106]++(gS P (ff 199 1) 1109 1971++([c' P "LowWhile" 2008 1132]++(gS P (ff 201 8) 1135 2009++([c' P "put_tests" 2102 1195]++(gS P (ff 210 1) 1196 2103++([c' P "LowSwitch" 2148 1219]++(gS P (ff 212 1) 1222 2149++(gS P (ff 214 3) 1229 2158++([c' P "_law_section" 2190 1254]++(gS P (ff 218 15) 1255 2191++([c' P "_law_sound" 2364 1364]++(gS P (ff 234 1) 1365 2365++([c' P "law" 2381 1376]))))))))))))))))))))))))))))]
def LC (l:n (m×j)):n Value:=l.flatMap λp=>[aR p.1 0,aR 0 0,a4 p.2]
def Db:n Value:=LC [(2,20),(7,40),(9,52),(44,66),(93,101),(102,108),(106,115),(112,122),(134,129),(138,136),(142,143),(147,150),(149,157),(158,164),(163,171),(167,178),(172,185),(175,192),(177,199),(187,206),(213,227),(223,248),(229,255),(232,262),(308,373),(318,394),(332,415),(344,436),(350,443),(356,450),(365,457),(367,464),(379,469),(389,476),(393,497),(397,518),(404,546),(436,609),(441,614),(446,621),(452,628),(456,635),(465,642),(472,649),(485,656),(490,663),(492,670),(496,678),(513,685),(520,692),(525,697),(537,704),(541,711),(553,718),(557,725),(561,732),(572,739),(581,746),(590,753),(596,760),(598,767),(600,774),(604,781),(606,788),(610,795),(615,802),(619,809),(631,816),(635,835),(644,854),(647,861),(651,868),(653,875),(660,882),(662,889),(664,896),(666,903),(673,910),(675,917),(680,924),(684,943),(690,962),(695,981),(710,1000),(717,1019),(724,1038),(728,1057),(732,1076),(736,1095),(740,1114),(744,1121),(756,1140),(767,1147),(770,1154),(776,1161),(786,1168),(795,1175),(808,1182),(830,1189),(837,1194),(849,1201),(879,1208),(883,1227),(893,1234),(899,1241),(903,1248),(905,1253),(907,1260),(927,1267),(931,1274),(962,1281),(965,1288),(974,1295),(979,1302),(983,1309),(989,1316),(1008,1323),(1020,1330),(1030,1337),(1058,1344),(1084,1351),(1104,1358),(1106,1363),(1146,1370),(1165,1375)]
def Dc (P:b5)(e:eL)(k n:j):Obj:={cls:=.type "dict",data:=.dict (e::(LB P).take k).toArray n}
def Dd (P:b5):n Obj:=kZ [[la (.type "dict") (kZ [[dB P "__name__" 1 (en "builtins" 160)],[dB P "__doc__" 2 (.builtin "builtins.__doc__:str#opaque")],[dB P "__package__" 3 (.builtin "builtins.__package__:str#opaque")],[dB P "__loader__" 4 (.builtin "builtins.__loader__:shared#opaque")],[dB P "__spec__" 5 (.builtin "builtins.__spec__#opaque")],vn P .builtin 6 ["__build_class__","__import__","abs","all","any","ascii","bin","breakpoint","callable","chr","compile","delattr","dir","divmod","eval","exec","format","getattr","globals","hasattr","hash","hex","id","input","isinstance","issubclass","iter","aiter","len","locals","max","min","next","anext","oct","ord","pow","print","repr","round","setattr","sorted","sum","vars"],[dB P "None" 50 .none],[dB P "Ellipsis" 51 .ellipsis],[dB P "NotImplemented" 52 .notImplemented],[dB P "False" 53 (.bool aN)],[dB P "True" 54 (.bool af)],vn P .type 55 ["bool","memoryview","bytearray","bytes","classmethod","complex","dict","enumerate","filter","float","frozenset","property","int","list","map","object","range","reversed","set","slice","staticmethod","str","super","tuple","type","zip"],[dB P "__debug__" 81 (.bool af)],vn P .type 82 ["BaseException","BaseExceptionGroup","Exception","GeneratorExit","KeyboardInterrupt","SystemExit","ArithmeticError","AssertionError","AttributeError","BufferError","EOFError","ImportError","LookupError","MemoryError","NameError","OSError","ReferenceError","RuntimeError","StopAsyncIteration","StopIteration","SyntaxError","SystemError","TypeError","ValueError","Warning","FloatingPointError","OverflowError","ZeroDivisionError","BytesWarning","DeprecationWarning","EncodingWarning","FutureWarning","ImportWarning","PendingDeprecationWarning","ResourceWarning","RuntimeWarning","SyntaxWarning","UnicodeWarning","UserWarning","BlockingIOError","ChildProcessError","ConnectionError","FileExistsError","FileNotFoundError","InterruptedError","IsADirectoryError","NotADirectoryError","PermissionError","ProcessLookupError","TimeoutError","IndentationError","_IncompleteInputError","IndexError","KeyError","ModuleNotFoundError","NotImplementedError","PythonFinalizationError","RecursionError","UnboundLocalError","UnicodeError","BrokenPipeError","ConnectionAbortedError","ConnectionRefusedError","ConnectionResetError","TabError","UnicodeDecodeError","UnicodeEncodeError","UnicodeTranslateError","ExceptionGroup"],[dB P "EnvironmentError" 151 (.type "OSError")],[dB P "IOError" 152 (.type "OSError")],vn P .builtin 153 ["open"],[dB P "quit" 154 (.builtin "builtins.quit#opaque")],[dB P "exit" 155 (.builtin "builtins.exit#opaque")],[dB P "copyright" 156 (.builtin "builtins.copyright#opaque")],[dB P "credits" 157 (.builtin "builtins.credits#opaque")],[dB P "license" 158 (.builtin "builtins.license#opaque")],[dB P "help" 159 (.builtin "builtins.help#opaque")]]) 159,la (.type "dict") [dB P "builtins" 162 (a4 4),dB P "__main__" 163 (a4 5)] 2,iB,iB,{cls:=.type "module",dict:=O 0},{cls:=.type "module",dict:=O 3},la (.type "dict") [] 0,b7 [],i1 [],jn "code" [en "<module>" 176,en "<module>" 177,en "/claim/cut.py" 178,aR 1 0,aR 0 0,aR 0 0,aR 0 0,aR 0 0,a4 7,.bool aN,aR 175 0,a4 8,.none,.none,.none,.none,aR 179 0,aR 1 0,en "/claim/cut.py" 180],s8 [O (a4 9),O (a4 3),O (a4 3),ab,O (en "__main__" 164),ab,O (a4 0)],b7 [],iB,lb "<module>" "<module>" 182 1 0 0 11 aN .none .none .none 185,s8 [O (a4 13),O (a4 3),O (a4 3),ab,O (en "__main__" 164),ab,O (a4 0)]]]
def LD (P:b5):n Obj:=kZ [C8 P (.type "Exception") 15 196 nN "RuneError" 2 (gS P (m' 1 1) 22 201++([c' P "__static_attributes__" 212 29])) 5 (i1 (ym (m' 1 1) 22)),
 vo nN "RuneError." (m' 1 1) 22 201,
 [yl 210 ["at","code"],rB P 196 nN 2 (gS P (m' 1 1) 22 201++([c' P "__static_attributes__" 212 29,c' P "__weakref__" 214 32,dB P "__doc__" 215 .none])) 3,s9 [O (a4 15),ab,O (en "RuneError" 189),O (en "RuneError" 197),O (.builtin "Exception.__new__"),O (.bool af)] "RuneError" [.type "Exception"] [a4 31,.type "Exception",.type "BaseException",.type "object"] 30 [a4 44,a4 56],jn "getset_descriptor" [en "__weakref__" 213,a4 31,.builtin "ExceptionGroup.__weakref__",.none],jn "super" [a4 31,a4 31,a4 31],jn "builtin_function_or_method" [.builtin "object.__init_subclass__",a4 31]],
 [b7 [a4 31],jn "builtin_function_or_method" [.builtin "type.__prepare__",.type "type"],la (.type "dict") [dB P "__module__" 227 nN,dB P "__qualname__" 229 (en "BadKind" 228),dB P "__firstlineno__" 231 (aR 7 230),dB P "__static_attributes__" 232 (a4 42)] 4,b7 [],i1 [],lb "BadKind" "BadKind" 222 7 0 0 38 aN .none .none .none 225,s8 [O (a4 40),O (a4 3),O (a4 37),ab,O nN,ab,O (a4 0)],b7 [],rB P 227 nN 7 [c' P "__static_attributes__" 232 42,dB P "__doc__" 233 .none] 2,s9 [O (a4 35),ab,O (en "BadKind" 220),O (en "BadKind" 228),O (.builtin "Exception.__new__"),O (.bool af)] "BadKind" [a4 31] [a4 44,a4 31,.type "Exception",.type "BaseException",.type "object"] 43 [],jn "super" [a4 44,a4 44,a4 44],jn "builtin_function_or_method" [.builtin "object.__init_subclass__",a4 44]],
 [b7 [a4 31],jn "builtin_function_or_method" [.builtin "type.__prepare__",.type "type"],la (.type "dict") [dB P "__module__" 243 nN,dB P "__qualname__" 245 (en "LeftOut" 244),dB P "__firstlineno__" 247 (aR 9 246),dB P "__static_attributes__" 248 (a4 54)] 4,b7 [],i1 [],lb "LeftOut" "LeftOut" 238 9 0 0 50 aN .none .none .none 241,s8 [O (a4 52),O (a4 3),O (a4 49),ab,O nN,ab,O (a4 0)],b7 [],rB P 243 nN 9 [c' P "__static_attributes__" 248 54,dB P "__doc__" 249 .none] 2,s9 [O (a4 47),ab,O (en "LeftOut" 236),O (en "LeftOut" 244),O (.builtin "Exception.__new__"),O (.bool af)] "LeftOut" [a4 31] [a4 56,a4 31,.type "Exception",.type "BaseException",.type "object"] 55 [],jn "super" [a4 56,a4 56,a4 56],jn "builtin_function_or_method" [.builtin "object.__init_subclass__",a4 56]]]
def LF (P:b5):n Obj:=kZ [[la (.type "dict") [⟨0,aR 0 254,(aR 20 312)⟩,⟨1,aR 1 256,(aR 9 313)⟩,⟨2,aR 2 258,(aR 10 314)⟩,⟨3,aR 3 260,(aR 11 315)⟩,⟨4,aR 4 262,(aR 12 316)⟩,⟨5,aR 5 264,(aR 13 317)⟩,⟨6,aR 6 266,(aR 14 318)⟩,⟨7,aR 7 268,(aR 15 319)⟩,⟨8,aR 8 270,(aR 16 320)⟩,⟨9,aR 9 272,(aR 17 321)⟩,⟨10,aR 10 274,(aR 18 322)⟩,⟨11,aR 11 276,(aR 19 323)⟩,⟨12,aR 12 278,(aR 1 324)⟩,⟨13,aR 13 280,(aR 4 325)⟩] 14,la (.type "dict") [⟨20,aR 20 341,(aR 0 254)⟩,⟨9,aR 9 342,(aR 1 256)⟩,⟨10,aR 10 343,(aR 2 258)⟩,⟨11,aR 11 344,(aR 3 260)⟩,⟨12,aR 12 345,(aR 4 262)⟩,⟨13,aR 13 346,(aR 5 264)⟩,⟨14,aR 14 347,(aR 6 266)⟩,⟨15,aR 15 348,(aR 7 268)⟩,⟨16,aR 16 349,(aR 8 270)⟩,⟨17,aR 17 350,(aR 9 272)⟩,⟨18,aR 18 351,(aR 10 274)⟩,⟨19,aR 19 352,(aR 11 276)⟩,⟨1,aR 1 353,(aR 12 278)⟩,⟨4,aR 4 354,(aR 13 280)⟩] 14]]
def LG (P:b5):n Obj:=kZ [na P vp 37 3 61 379 ["depths","index","opens","rows","weights"] (ml "KindTable" 372 380 91 90 []),
 i2 vp (ff 38 15) 96 429]
def LH (P:b5):n Obj:=kZ [na P vq 61 1 201 576 ["asm","base","bounds","cctor","events","fields","finaliser","flags","home","ifaces","impls","methods","name","params","props","sort","tid","under","variances"] (ml "TypeDef" 569 577 217 216 []),
 na P vq 62 1 222 630 ["asms","entry","fields_","kt","methods","names","types"] (ml "Store" 623 631 238 237 []),
 i2 vq (ff 63 1) 243 657,
 i2 LA (ff 65 1) 250 668,
 yn P 257 685 vr "Diags" 232 (gS P (m' 67 3) 264 690++([c' P "numbers" 720 289,c' P "__static_attributes__" 722 290])) 8 (i1 [aR 234 0,aR 4 0,a4 269,aR 237 0,aR 4 0,a4 276,aR 240 0,aR 4 0,a4 283,aR 244 0,aR 4 0,a4 288]),
 vo vr "Diags." (m' 67 3) 264 690,
 [b7 [],i1 [],C4 (yk 67 3) "Diags.numbers",lb "numbers" "Diags.numbers" 715 244 1 3 285 af .none .none (a4 287) 718,C5 (yk 67 3) "Diags.numbers" vr 288,b7 [en "rows" 721],rB P 685 vr 232 (gS P (m' 67 3) 264 690++([c' P "numbers" 720 289,c' P "__static_attributes__" 722 290,c' P "__dict__" 724 293,c' P "__weakref__" 726 294,dB P "__doc__" 727 .none])) 4,ml "Diags" 678 686 292 291 []],
 C9 723 292]
noncomputable def LI (P:b5):n Obj:=[]
def LJ (P:b5):n Obj:=kZ [[la (.type "dict") [⟨4,aR 4 738,(a4 299)⟩,⟨6,aR 6 742,(a4 302)⟩,⟨7,aR 7 744,(a4 304)⟩,⟨8,aR 8 746,(a4 307)⟩,⟨9,aR 9 748,(a4 309)⟩,⟨10,aR 10 750,(a4 311)⟩,⟨11,aR 11 752,(a4 313)⟩,⟨13,aR 13 756,(a4 315)⟩,⟨14,aR 14 758,(a4 318)⟩,⟨15,aR 15 760,(a4 321)⟩,⟨16,aR 16 762,(a4 324)⟩,⟨17,aR 17 764,(a4 328)⟩,⟨18,aR 18 766,(a4 331)⟩,⟨19,aR 19 768,(a4 333)⟩,⟨20,aR 20 770,(a4 335)⟩,⟨21,aR 21 772,(a4 337)⟩,⟨22,aR 22 774,(a4 340)⟩,⟨23,aR 23 776,(a4 344)⟩,⟨25,aR 25 778,(a4 346)⟩,⟨26,aR 26 780,(a4 348)⟩,⟨27,aR 27 782,(a4 351)⟩,⟨28,aR 28 784,(a4 353)⟩,⟨30,aR 30 786,(a4 355)⟩,⟨31,aR 31 788,(a4 358)⟩,⟨33,aR 33 792,(a4 360)⟩,⟨34,aR 34 794,(a4 363)⟩,⟨35,aR 35 796,(a4 365)⟩,⟨36,aR 36 798,(a4 367)⟩] 28,b7 [aR 2 852,aR 1 846],b7 [a4 298],b7 [aR 2 854,aR 1 846],b7 [aR 3 855,aR 1 846],b7 [a4 300,a4 301],b7 [aR 2 857,aR 1 846],b7 [a4 303],b7 [aR 2 859,aR 2 848],b7 [aR 4 860,aR 3 850],b7 [a4 305,a4 306],b7 [aR 3 862,aR 3 850],b7 [a4 308],b7 [aR 2 864,aR 1 846],b7 [a4 310],b7 [aR 2 866,aR 3 850],b7 [a4 312],b7 [aR 3 868,aR 1 846],b7 [a4 314],b7 [aR 3 870,aR 1 846],b7 [aR 4 871,aR 1 846],b7 [a4 316,a4 317],b7 [aR 2 873,aR 1 846],b7 [aR 3 874,aR 1 846],b7 [a4 319,a4 320],b7 [aR 2 876,aR 1 846],b7 [aR 3 877,aR 1 846],b7 [a4 322,a4 323],b7 [aR 2 879,aR 1 846],b7 [aR 3 880,aR 1 846],b7 [aR 4 881,aR 1 846],b7 [a4 325,a4 326,a4 327],b7 [aR 2 883,aR 1 846],b7 [aR 3 884,aR 1 846],b7 [a4 329,a4 330],b7 [aR 2 886,aR 1 846],b7 [a4 332],b7 [aR 2 888,aR 1 846],b7 [a4 334],b7 [aR 2 890,aR 1 846],b7 [a4 336],b7 [aR 2 892,aR 1 846],b7 [aR 3 893,aR 1 846],b7 [a4 338,a4 339],la (.type "dict") [⟨23,aR 23 776,(a4 344)⟩,⟨25,aR 25 778,(a4 346)⟩,⟨26,aR 26 780,(a4 348)⟩,⟨27,aR 27 782,(a4 351)⟩,⟨28,aR 28 784,(a4 353)⟩,⟨30,aR 30 786,(a4 355)⟩,⟨31,aR 31 788,(a4 358)⟩,⟨33,aR 33 792,(a4 360)⟩,⟨34,aR 34 794,(a4 363)⟩,⟨35,aR 35 796,(a4 365)⟩,⟨36,aR 36 798,(a4 367)⟩] 11,b7 [aR 2 895,aR 1 846],b7 [aR 3 896,aR 1 846],b7 [a4 342,a4 343],b7 [aR 2 897,aR 2 848],b7 [a4 345],b7 [aR 2 898,aR 3 850],b7 [a4 347],b7 [aR 3 899,aR 1 846],b7 [aR 4 900,aR 1 846],b7 [a4 349,a4 350],b7 [aR 3 901,aR 1 846],b7 [a4 352],b7 [aR 2 902,aR 1 846],b7 [a4 354],b7 [aR 2 903,aR 3 850],b7 [aR 3 904,aR 1 846],b7 [a4 356,a4 357],b7 [aR 2 905,aR 1 846],b7 [a4 359],b7 [aR 2 906,aR 2 848],b7 [aR 5 907,aR 3 850],b7 [a4 361,a4 362],b7 [aR 3 908,aR 3 850],b7 [a4 364],b7 [aR 2 909,aR 2 848],b7 [a4 366]]]
def LK (P:b5):n Obj:=kZ [na P oP 130 1 368 929 ["arg","block","flags","kind","lid","name","owner"] (ml "Var" 922 930 384 383 []),
 na P oP 131 1 389 968 ["at","body","elem","fnid","lids","mid","params","ret","sort","this_kind","up"] (ml "Fn" 961 969 405 404 []),
 na P oP 132 1 410 1010 ["asm","consts","diags","fns","inits","of_mid","sinits","store","vars"] (ml "Unit" 1003 1011 426 425 []),
 i2 oP (ff 133 5) 431 1041,
 [b7 [],i1 [],oN (hk 138),lb "plug" "plug" 1096 379 2 3 466 af .none .none (a4 468) 1099,oO (hk 138) oP 469],
 na P oQ 140 1 471 1111 [] iB,
 na P oQ 141 1 492 1140 [] iB,
 na P oQ 142 2 513 1169 [] (ml "Spiller" 1162 1170 536 535 [])]
def LL (P:b5):n Obj:=kZ [na P oQ 143 7 541 1207 ["exprs","fn","kt","labels","out","spiller","stmts","store","targets","unit"] (ml "Low" 1200 1208 599 598 []),
 i2 oQ (ff 144 1) 604 1286,
 [b7 [],i1 [],oN (hk 145),lb "low_parts" "low_parts" 1295 441 2 3 611 af .none .none (a4 613) 1298,oO (hk 145) oQ 614],
 i2 oQ (ff 146 8) 616 1301,
 [b7 [aR 1 732,aR 1 256,aR 1 1374]],
 i2 nO (ff 156 3) 673 1376,
 [b7 [],i1 [],oN (hk 159),lb "pin_prop" "pin_prop" 1414 525 3 3 694 af .none .none (a4 696) 1417,oO (hk 159) nO 697],
 i2 nO (ff 160 1) 699 1420]
def LM (P:b5):n Obj:=kZ [i2 nO (ff 161 15) 706 1427,
 kH P nO 487 176 811 1583,
 kH P nO 487 177 830 1608]
def LN (P:b5):n Obj:=kZ [i2 nO (ff 178 4) 849 1630,
 i2 h8 (ff 183 6) 877 1663,
 kH P h8 508 189 919 1722]
def LO (P:b5):n Obj:=kZ [kH P h8 508 190 938 1747,
 kH P h8 508 191 957 1773,
 kH P h8 508 192 976 1799,
 kH P h8 508 193 995 1826,
 kH P h8 508 194 1014 1852,
 kH P h8 508 195 1033 1878,
 kH P h8 508 196 1052 1903,
 kH P h8 508 197 1071 1928]
def LP (P:b5):n Obj:=kZ [kH P h8 508 198 1090 1953,
 i2 h8 (ff 199 1) 1109 1971,
 kH P h8 508 200 1116 1988,
 i2 h8 (ff 201 8) 1135 2009,
 [b7 [],i1 [],oN (hk 209),lb "put_tests" "put_tests" 2097 837 4 3 1191 af .none .none (a4 1193) 2100,oO (hk 209) h8 1194],
 i2 h8 (ff 210 1) 1196 2103,
 kH P h8 508 211 1203 2131]
def LQ (P:b5):n Obj:=kZ [i2 h8 (ff 212 1) 1222 2149,
 i2 p0 (ff 214 3) 1229 2158,
 [b7 [],i1 [],oN (hk 217),lb "_law_section" "_law_section" 2185 905 3 3 1250 af .none .none (a4 1252) 2188,oO (hk 217) p0 1253],
 i2 p0 (ff 218 15) 1255 2191,
 [b7 [],i1 [],oN (hk 233),lb "_law_sound" "_law_sound" 2359 1106 2 3 1360 af .none .none (a4 1362) 2362,oO (hk 233) p0 1363],
 i2 p0 (ff 234 1) 1365 2365,
 [b7 [],i1 [],oN (hk 235),lb "law" "law" 2376 1165 1 3 1372 af .none .none (a4 1374) 2379,oO (hk 235) p0 1375]]
def LR (P:b5):n Obj:=Dd P
def De (P:b5):n Obj:=(((Dd P).set 2 (la .none [] 0)).set 3 (Dc P (dB P "__name__" 165 (en "__main__" 164)) 8 9)).set 12 (i1 (Db.take 0))
def vt (P:b5)(a:fv):SharedT:=⟨jO 12 (De P),15,{},#[],{},187,a⟩
def Df (P:b5):n Obj:=LR P++LD P
def lc (P:b5)(l:n g3)(m:ae)(a b c:j):n Obj:=((l.set 2 (la .none [dB P "type.__subclasses__.Exception.0" 216 (aR 31 0),dB P "type.__subclasses__.Exception.n" 217 (aR 1 0)] 2)).set 3 (Dc P (dB P "__name__" 165 m) a b)).set 12 (i1 (Db.take c))
def p1 (P:b5)(l:n g3)(m:ae)(a b c i d:j):n Obj:=((lc P l m a b c).set 487 (ml "LowRule" 1104 1112 487 486 (([827,846].take i).map a4))).set 508 (ml "LowStmt" 1133 1141 508 507 (([935,954,973,992,1011,1030,1049,1068,1087,1106,1132,1219].take d).map a4))
def LS (P:b5):n Obj:=lc P (Df P) vp 40 41 9
def s' (P:b5)(a:fv):SharedT:=⟨jO 12 (LS P),59,{},#[],{},312,a⟩
def Dg (P:b5):n Obj:=Df P++LF P
def LU (P:b5):n Obj:=lc P (Dg P) vp 42 43 9
def ta (P:b5)(a:fv):SharedT:=⟨jO 12 (LU P),61,{},#[],{},370,a⟩
def Dh (P:b5):n Obj:=Dg P++LG P
def LV (P:b5):n Obj:=lc P (Dh P) vq 66 67 57
def Di (P:b5)(a:fv):SharedT:=⟨jO 12 (LV P),201,{},#[],{},569,a⟩
def Dj (P:b5):n Obj:=Dh P++LH P
def LW (P:b5):n Obj:=lc P (Dj P) oP 112 113 72
def Dk (P:b5)(a:fv):SharedT:=⟨jO 12 (LW P),297,{},#[],{},814,a⟩
def Dl (P:b5):n Obj:=Dj P++LI P
def LX (P:b5):n Obj:=lc P (Dl P) oP 131 132 72
def tb (P:b5)(a:fv):SharedT:=⟨jO 12 (LX P),297,{},#[],{},852,a⟩
def Dm (P:b5):n Obj:=Dl P++LJ P
def LY (P:b5):n Obj:=lc P (Dm P) oP 132 133 72
def tc (P:b5)(a:fv):SharedT:=⟨jO 12 (LY P),368,{},#[],{},922,a⟩
def Dn (P:b5):n Obj:=Dm P++LK P
def LZ (P:b5):n Obj:=p1 P (Dn P) oQ 144 145 108 0 0
def Do (P:b5)(a:fv):SharedT:=⟨jO 12 (LZ P),541,{},#[],{},1200,a⟩
def Dp (P:b5):n Obj:=Dn P++LL P
def L0 (P:b5):n Obj:=p1 P (Dp P) nO 161 162 156 0 0
def Dq (P:b5)(a:fv):SharedT:=⟨jO 12 (L0 P),706,{},#[],{},1427,a⟩
def Dr (P:b5):n Obj:=Dp P++LM P
def L1 (P:b5):n Obj:=p1 P (Dr P) nO 178 179 207 2 0
def Ds (P:b5)(a:fv):SharedT:=⟨jO 12 (L1 P),849,{},#[],{},1630,a⟩
def Dt (P:b5):n Obj:=Dr P++LN P
def L2 (P:b5):n Obj:=p1 P (Dt P) h8 189 190 240 2 1
def Du (P:b5)(a:fv):SharedT:=⟨jO 12 (L2 P),938,{},#[],{},1740,a⟩
def Dv (P:b5):n Obj:=Dt P++LO P
def L3 (P:b5):n Obj:=p1 P (Dv P) h8 197 198 264 2 9
def Dw (P:b5)(a:fv):SharedT:=⟨jO 12 (L3 P),1090,{},#[],{},1946,a⟩
def Dx (P:b5):n Obj:=Dv P++LP P
def L4 (P:b5):n Obj:=p1 P (Dx P) h8 211 212 306 2 12
def Dy (P:b5)(a:fv):SharedT:=⟨jO 12 (L4 P),1222,{},#[],{},2149,a⟩
def L5 (P:b5):n Obj:=Dx P++LQ P
def Dz (P:b5):n Obj:=p1 P (L5 P) p0 234 235 375 2 12
def L6 (P:b5)(a:fv):SharedT:=⟨jO 12 (Dz P),1377,{},#[],{},2382,a⟩
noncomputable def oR:Env:={scope:=e'.main.scope,locals:=mainNs,globals:=mainNs,cells:=[],code:=.ref 13,frame:=O 14}
def fo:Code:=.body fe oR
noncomputable abbrev nb:Q Value:=O (.ref 6)
def hC (n:j)(w:e9)(s:SharedT)(t:Thread):=PySem.W.Fast.tw10110043849684766642 B3 e' w 11 nb 1 n s t
def DA (n:j)(w:e9)(s:SharedT)(t:Thread):segRunT q' e' w 11 nb 1 n s t=hC n w s t:=by unfold hC;rw[PySem.W.Fast.te10110043849684766642,B4]
def hQ (a n:j)(p:b0):Thread:=⟨(PySem.W.Fast.tw12563942051412417395 ((fe.drop a).take n) oR).wrap doneF deadEnd id id,fo,p,[sz iB]⟩
def L7 (a n:j)(p:b0):piecesOf ((fe.drop a).take n) oR fo p [sz iB]=hQ a n p:=by unfold hQ piecesOf;rw[PySem.W.Fast.te12563942051412417395]
def L8 (w:e9)(a:fv):hC 2170 w (vt w.params a) (hQ 0 34 iB)=O (.next,s' w.params a,fo,⟨40,0,40,13⟩):=()
theorem L9 (w:e9)(a:fv):hC 1124 (w.withFollow "special-get-raises" af) (s' (w.withFollow "special-get-raises" af).params a) (hQ 34 2 ⟨40,0,40,13⟩)=O (.next,ta (w.withFollow "special-get-raises" af).params a,fo,⟨42,0,42,8⟩):=()
theorem L' (w:e9)(a:fv):hC 1124 (w.withFollow "special-get-raises" aN) (s' (w.withFollow "special-get-raises" aN).params a) (hQ 34 2 ⟨40,0,40,13⟩)=O (.next,ta (w.withFollow "special-get-raises" aN).params a,fo,⟨42,0,42,8⟩):=()
def Ma (w:e9)(a:fv):hC 1966 w (ta w.params a) (hQ 36 25 ⟨42,0,42,8⟩)=O (.next,Di w.params a,fo,⟨186,0,186,10⟩):=()
def Mb (w:e9)(a:fv):hC 2792 w (Di w.params a) (hQ 61 49 ⟨186,0,186,10⟩)=O (.next,Dk w.params a,fo,⟨287,0,287,4⟩):=()
def Mc (w:e9)(a:fv):hC 642 w (Dk w.params a) (hQ 110 19 ⟨287,0,287,4⟩)=O (.next,tb w.params a,fo,⟨306,0,306,6⟩):=()
theorem Md (w:e9)(a:fv):hC 1716 (w.withFollow "special-get-raises" af) (tb (w.withFollow "special-get-raises" af).params a) (hQ 129 1 ⟨306,0,306,6⟩)=O (.next,tc (w.withFollow "special-get-raises" af).params a,fo,⟨307,0,307,10⟩):=()
theorem Me (w:e9)(a:fv):hC 1716 (w.withFollow "special-get-raises" aN) (tb (w.withFollow "special-get-raises" aN).params a) (hQ 129 1 ⟨306,0,306,6⟩)=O (.next,tc (w.withFollow "special-get-raises" aN).params a,fo,⟨307,0,307,10⟩):=()
def Mf (w:e9)(a:fv):hC 3494 w (tc w.params a) (hQ 130 13 ⟨307,0,307,10⟩)=O (.next,Do w.params a,fo,⟨397,0,403,33⟩):=()
def Mg (w:e9)(a:fv):hC 2120 w (Do w.params a) (hQ 143 18 ⟨397,0,403,33⟩)=O (.next,Dq w.params a,fo,⟨537,0,540,16⟩):=()
def Mh (w:e9)(a:fv):hC 2246 w (Dq w.params a) (hQ 161 17 ⟨537,0,540,16⟩)=O (.next,Ds w.params a,fo,⟨635,0,643,100⟩):=()
def Mi (w:e9)(a:fv):hC 1414 w (Ds w.params a) (hQ 178 12 ⟨635,0,643,100⟩)=O (.next,Du w.params a,fo,⟨680,0,683,27⟩):=()
def Mj (w:e9)(a:fv):hC 4232 w (Du w.params a) (hQ 190 8 ⟨680,0,683,27⟩)=O (.next,Dw w.params a,fo,⟨732,0,735,50⟩):=()
def Mk (w:e9)(a:fv):hC 2506 w (Dw w.params a) (hQ 198 14 ⟨732,0,735,50⟩)=O (.next,Dy w.params a,fo,⟨879,0,882,25⟩):=()
def Ml (w:e9)(a:fv):hC 1780 w (Dy w.params a) (hQ 212 24 ⟨879,0,882,25⟩)=O (.next,L6 w.params a,fo,⟨1165,0,1215,106⟩):=()
def nP (P:b5):Heap:=absHeap (jO 12 ((De P).take 11)) 11 {}
noncomputable def vu:Nat:=40000
theorem Mm (w:e9):JV q' e' w vu=(PySem.W.Fast.tw10274390034422433532 B3 (opening e') w vu (ah1 (opening e')).1 (ah1 (opening e')).2).bind (fenceModules? e'):=by unfold JV;rw[PySem.W.Fast.te10274390034422433532,B4,PySem.W.Fast.te1435165496053646825]
def Mn (w:e9):(JV q' e' w vu).map (λs=>(s.heap,s.gens,s.drawn,s.toks))=O (nP w.params,#[],{},181):=by rw[Mm];rfl'
def Mo (w:e9):((nP w.params).isNs xP&&(#[]:dC GenState).size==0,(nP w.params).objs.size,(nP w.params).nsMap xP "__annotations__")=(af,11,nb):=()
def yo (n:j)(w:e9)(s:b1)(t:Thread):=PySem.W.Fast.tw15667345088766844465 B3 e' w 11 nb n s t
def Mp (n:j)(w:e9)(s:b1)(t:Thread):topGo q' e' w 11 nb n s t=yo n w s t:=by unfold yo;rw[PySem.W.Fast.te15667345088766844465,B4]
def Mq (w:e9)(a:fv):yo 12 w ⟨nP w.params,#[],{},181,a⟩ (topStub e')=O ((vt w.params a).abs,⟨PySem.W.Fast.tw11892475500146522536 B3 (.body fe oR),fo,iB,[sz iB]⟩):=()
def Mr (w:e9)(a:fv):hC 100 w (vt w.params a) (blockOf fe oR fo iB [sz iB])=O (.next,vt w.params a,fo,iB):=()
def gr (P:b5):Heap:=absHeap (jO 12 (Dz P)) 1377 {}
noncomputable def oS:Program:=view e' [235]
theorem Ms (w:e9)(a:fv):(staticsOk (JW e'.main.body) (nP w.params) (gr w.params)&&namesBound e' (gr w.params)&&gensDone ⟨gr w.params,#[],{},2382,a⟩&&laidKept (nP w.params) (gr w.params))=true:=()
noncomputable def rC:n Str:=e'.boundNames.filter λa=>!(a==("law":aH))
def Mt (w:e9)(a:fv):openSeen oS rC (JW e'.main.body) (λb=>af) af ⟨gr w.params,#[],{},2382,a⟩=openGood oS rC:=by rw[PySem.W.Fast.te4187177175401517315];rfl'
def Mu:(chainsOk oS&&opensWell e'&&(frees JX.row.toRowW&&JX.row.within.isEmpty))=true:=()
noncomputable abbrev dJ:OpenLaw:=JX
def Mv:namesResolve e'=true:=by rw[PySem.W.Fast.te8377067652309620493];rfl'
theorem Mw:noRoadLSs {strict:=!(JW e'.main.body).all cThrough.contains,foot:=ab,bare:=(["vars","dir","locals"]:n aH).filter (readsOut e' e'.main.body)} e'.main.body=true:=by rw[ah2,PySem.W.Fast.te13343964577679436407];rfl'
def Mx:B5 e' e'.main.body (λa n=>attrL n)=true:=by rw[JY];rfl'
def My:looksOpen e'=true:=by unfold looksOpen;rw[Mv,Mw,Mx];rfl'
def Mz:dJ.row.partSaid=true:=by unfold OpenRow.partSaid;rw[show looksOpen dJ.row.prog=af from My];rfl'
def MA:dJ.row.wellSaid=true:=by unfold OpenRow.wellSaid;rw[Mz];rfl'
def MB:dJ.footing.all footLine=true:=by rw[PySem.W.Fast.te10501279942588096481];rfl'
def MC:noClassBlock dJ.prog dJ.footing=true:=by rw[PySem.W.Fast.te8179353310426384613];rfl'
def MD:noRoadLSs {strict:=af,foot:=O dJ.bound',writes:=dJ.writes,may:=dJ.may} dJ.footing=true:=by rw[ah2];rfl'
def ME:(defStands dJ.about dJ.above&&dJ.namesIt)=true:=by rw[PySem.W.Fast.te9558739934217749035,PySem.W.Fast.te16286561074155671207];rfl'
def MF:dJ.bound'.all (λn=>!builtinNamed n||dJ.about==[n]||!dJ.reads n)=true:=by rw[ah3];rfl'
theorem MG:(B5 dJ.prog dJ.footing (λb a=>(!(["type","isinstance","issubclass","getattr","hasattr"]:n aH).contains a||b.names.lookup a==O .globalImplicit)&&
 (dJ.may !=O a||b.kind==.module||b.names.lookup a==O .globalImplicit)))=true:=by rw[JY];rfl'
def MH:(dJ.own.contains dJ.name&&L dJ.own.eraseDups==L dJ.own&&dJ.own.all (λn=>!builtinNamed n))=true:=by rw[ah3];rfl'
def MI:(B5 dJ.prog dJ.above (λa n=>!dJ.own.contains n)&&B5 dJ.prog dJ.footing λa n=>a.kind==.module||a.names.lookup n !=O .globalExplicit)=true:=by rw[JY];rfl'
theorem MJ:(an (dJ.foot<=L (behindTheImports dJ.prog))&&dJ.most.all (λa=>an (63<=a))&&dJ.bound.all (λa=>an (2^63<=a))&&(["type","isinstance","issubclass","getattr","hasattr"]:n aH).all (λa=>dJ.about !=[a])&&
 (!dJ.writes||(dJ.prog.main.body.flatMap importedNames).all λa=>!dJ.reads a)&&(dJ.prog.main.body.flatMap importedNames).all (λa=>!dJ.reads a||(drawsOf a dJ.prog.main.body).all λb=>b.2 !=("attrgetter":aH)&&b.2 !=("methodcaller":aH)))=true:=()
theorem MK:dJ.wellSaid=true:=by have p:=ME;have n:=MH;have q:=MI;have o:=MJ;simp only[fu]at p n q o;refine bd p λa b=>?_;refine bd n ?_;clear n;intro r e;obtain⟨c,d⟩:=r;refine bd q λf g=>?_;refine bd o ?_;clear o;intro s m;obtain⟨t,l⟩:=s;obtain⟨u,k⟩:=t;obtain⟨v,j⟩:=u;obtain⟨h,i⟩:=v;unfold OpenLaw.wellSaid;rw[MA,h,MB,MC,i,j,MD,a,b,k,MF,l,m,MG,c,d,e,f,g];rfl
local macro_rules
 | `(tactic|rw$r:rwRuleSeq)=>do
  let a:=r.raw[1];let e:=a[0]
  if e.isMissing then Lean.Macro.throwUnsupported
  let i:=Lean.mkIdent (if e[0].getNumArgs=0 then `bR else `bS);let s:=r.raw.setArg 1 (a.setArgs (a.getArgs.extract 2 99))
  `(tactic|(refine$i ($(⟨e[1]⟩) ..) ?_;rw$(⟨s⟩):rwRuleSeq))
theorem lf {N M:j}{a k:j}{w:e9}{S b:SharedT}{p c:b0}{r:b1}(h:hC N w S (hQ a k p)=O (.next,b,fo,c))
 (q:topRun q' e' w 11 nb M b.abs (restOf (fe.drop (a+k)) oR fo c [sz iB])=O r):topRun q' e' w 11 nb (N+M) S.abs (restOf (fe.drop a) oR fo p [sz iB])=O r:=by
 rw[<-DA,<-L7]at h;have e:fe.drop a=(fe.drop a).take k++fe.drop (a+k):=by rw[<-List.drop_drop,ah4]
 rw[e];exact piece_app (segRun_of h) q
theorem DB {Q:e9->Prop}(t:Q (eo.withFollow "special-get-raises" af))(f:Q (eo.withFollow "special-get-raises" aN)):Q eo:=by
 have e:=World.withFollow_self eo "special-get-raises";cases h:eo.params.followText "special-get-raises"<;>rw[h]at e
 ·rw[<-e];exact f
 ·rw[<-e];exact t
def ML (w:e9)(s:b1)(p:b0):topRun q' e' w 11 nb 20 s (restOf [] oR fo p [sz iB])=O s:=by obtain⟨h,g,d,t,o⟩:=s;rfl
theorem MM (w:e9)(a:fv):hC 1124 w (s' w.params a) (hQ 34 2 ⟨40,0,40,13⟩)=O (.next,ta w.params a,fo,⟨42,0,42,8⟩):=
 DB (Q:= λw=>hC 1124 w (s' w.params a) (hQ 34 2 ⟨40,0,40,13⟩)=O (.next,ta w.params a,fo,⟨42,0,42,8⟩)) (L9 w a) (L' w a)
theorem MN (w:e9)(a:fv):hC 1716 w (tb w.params a) (hQ 129 1 ⟨306,0,306,6⟩)=O (.next,tc w.params a,fo,⟨307,0,307,10⟩):=
 DB (Q:= λw=>hC 1716 w (tb w.params a) (hQ 129 1 ⟨306,0,306,6⟩)=O (.next,tc w.params a,fo,⟨307,0,307,10⟩)) (Md w a) (Me w a)
noncomputable def DC:Nat:=12+(100+(2170+(1124+(1966+(2792+(642+(1716+(3494+(2120+(2246+(1414+(4232+(2506+(1780+20))))))))))))))
theorem MO (w:e9)(a:fv):topRun q' e' w 11 nb DC ⟨nP w.params,#[],{},181,a⟩ (topStub e')=O ⟨gr w.params,#[],{},2382,a⟩:=by have g:=Mq w a;rw[<-Mp,<-PySem.W.Fast.te11892475500146522536,<-B4]at g;refine go_top g ?_;have b:=Mr w a;rw[<-DA]at b;refine piece_block (segRun_of b) (lf (a:=0) (L8 w a) (lf (a:=34) (MM w a) (lf (a:=36) (Ma w a) (lf (a:=61) (Mb w a) (lf (a:=110) (Mc w a) (lf (a:=129) (MN w a) (lf (a:=130) (Mf w a) (lf (a:=143) (Mg w a) (lf (a:=161) (Mh w a) (lf (a:=178) (Mi w a) (lf (a:=190) (Mj w a) (lf (a:=198) (Mk w a) (lf (a:=212) (Ml w a) ?_)))))))))))));rw[show fe.drop (212+24)=[] by rfl'];exact(ML w _ _).trans ()
theorem MP:LeftO e' oS rC (λa=>af) (λs=>s.heap) (λw=>gr w.params) vu:=by refine LeftO.of_pieces (H₀:=nP) (H₁:=gr) (gs₀:=#[]) (gs₁:=#[]) (d₀:={}) (d₁:={}) (k₀:=181) (k₁:=2382) (m₀:=11) (ann:=nb) (M:=DC) Mn Mo MO () λw=>?_;funext a;rw[Ms w a,Mt w a]
def yp (w:e9)(h:fS):Prop:=∀b o,(gr w.params).get? b=O o->h.get? b=O o
def oT:DefRec:=⟨"law",rz (hk 235),s7 (hk 235),rA (hk 235),⟨1165,0,1215,106⟩⟩
def MQ:defOf oS ("law":aH)=O (oT,[]):=()
def MR:e'.theDef ("law":aH)=O (oT.params,oT.body,oT.scope):=()
def MS:e'.tablesWhole=true:=by refine(?_:ah5 TablesWhole.holds e'=af);unfold ah5;rw[PySem.W.Fast.te6116379765354995101];rfl'
def MT:e'.bare:=⟨aa,aa,aa,aa,(),MS⟩
def MU:dJ.row.toRowW.promised:=RowW.promised_of_found ()
theorem MV (c:WalkO oS rC (λa a=>fZ) yp dJ.row.toRowW oT [] λf g=>lD f g):dJ.Holds:=
 holds_law MK λi=>holds_open (r:=dJ.row) (q:=oS) (loose:=rC) (XP:= λa a=>fZ) (YP:=yp) (d:=oT) (kwd:=[]) MP (λw s e b o h=>by rw[show s.heap=gr w.params from e];exact h) (λw h j y k b o e=>k b o (y b o e))
  (λa a=>bY) (λa a a a a=>bY) MQ MR () (λa a=>recFacts_nil aa) aa i Mu MT MU c
open PySem.Calls
set_option maxRecDepth 10000
noncomputable def eF:n Str:=List.map nC [
 "arg","asm","asms","at","base","block","body","bounds","cctor","code","consts","depths","diags","effect","elem","entry","events","expr","exprs",
 "fields","fields_","finaliser","flags","fn","fnid","fns","home","ifaces","impls","index","inits","kind","kt","label","labels","lid","lids","low",
 "methods","mid","name","names","of_mid","once","opens","out","owner","params","props","put","ret","row","rows","sinits","sort","spill","spiller",
 "stmt","stmts","store","targets","temp","this_kind","tid","types","under","unit","up","variances","vars","weights","cells","e","f","g","given","gone",
 "inner","left","log","n","numbers","reads","tape","turns","w","whole","written","!","!=","-","<","==",">","box","lost","","E","T","t","v",
 "Nullable"]
noncomputable def bG (i:j):Str:=eF.getD i ""
def e2 (s:aH):Nat:=eF.idxOf s
def vv:L eF=102:=aa
def DD:eF.Nodup:=by decide+kernel
def vw (h:f<L eF):eF[f]?=O (bG f):=by unfold bG;rw[xQ,eM h];rfl
def vx (c:f<L eF)(d:z<L eF)(e:bG f=bG z):f=z:=by have a:=vw c;have b:=vw d;rw[e]at a;rw[cs]at a b;exact bu a λg a=>bu b λg b=>(List.getElem_inj DD).mp (a.trans b.symm)
def aiY (h:f<102):e2 (bG f)=f:=by have a:=vw h;rw[cs]at a;refine bu a λb a=>?_;rw[<-a];exact DD.idxOf_getElem _ _
def oU (h:e2 a9<L eF):bG (e2 a9)=a9:=by have:=vw h;rw[eM h]at this;rw[<-(JT this)];exact List.getElem_idxOf h
set_option genCtorIdx true in
inductive x where
 |C
 |d (b:bm)
 |e (i:m)
 |f (s:aH)
 |r (l:n x)
 |c (i:j)
 |h (a:ac)
set_option genCtorIdx true in
inductive aX where
 |y (l:n x)
 |h (l:n (m×x))
 |K (l:n (j×x))
 |c (l:bk)
 |a (C:ac)(fs:n (j×x))
 |b
open Internal.aX renaming casesOn->hf
abbrev Z:=n aX
abbrev E:=n x
abbrev be:=Q x
abbrev b2:=n (m×x)
abbrev bg:=x->Z->Prop
abbrev fp:=bm->Z->Prop
abbrev bI:=Z->Prop
structure gT where
 D:ac->j->Q ac
 x:ac->j->bm
 e:ac->Q b2
 y:ac->Q E
 d:ac->bm
structure cQ where
 d:Program
 c:e9
 b:b1
 P:gT
noncomputable abbrev cQ.a (c:cQ):Model:=oy c.d c.c
structure bl where
 c:b1
 a:n (ac×ac)
def nc (b:ac)(p:ac×ac):Prop:=b=p.1\/b=p.2
def T (g:bl)(b:ac):Prop:=∃(i:j)(p:ac×ac),g.a[i]?=O p/\nc b p
noncomputable def de:Nat:=1000000
def lg (h b:fS):Prop:=∀a o,h.get? a=O o->o.cls=.type "tuple"->(∃c n,o.data=.seq c n)->b.get? a=O o
structure gh (g a:bl):Prop where
 r:lg g.c.heap a.c.heap
 l:∀(i:j)(p:ac×ac),g.a[i]?=O p->a.a[i]?=O p
def lg.D (h:fS):lg h h:= λa a e a a=>e
theorem lg.y (x:lg cM lh)(y:lg lh DE):lg cM DE:= λa o e c d=>y a o (x a o e c d) c d
def yq (k:∀b x,cM.get? b=O x->lh.get? b=O x):lg cM lh:= λa o e c c=>k a o e
mutual
inductive a1 (g:bl):ae->x->Prop
 |C:a1 g .none .C
 |d (b:bm):a1 g (.bool b) (.d b)
 |e (i:m)(t:Tok):a1 g (.int i t) (.e i)
 |f (s:aH)(t:Tok):a1 g (.str s t) (.f s)
 |r {b:ac}{k:dC ae}{o:j}{h:E}:g.c.heap.get? b=O {cls:=.type "tuple",data:=.seq k o}->bp g k.toList h->L h<=de->a1 g (.ref b) (.r h)
 |c {i:j}{p:ac×ac}:g.a[i]?=O p->a1 g (.ref p.1) (.c i)
 |h (b:ac):a1 g (.ref b) (.h b)
inductive bp (g:bl):n ae->E->Prop
 |l:bp g [] []
 |a {v:ae}{h:x}{k:n ae}{o:E}:a1 g v h->bp g k o->bp g (v::k) (h::o)
end
theorem a1.u {g d:bl}(k:gh g d){v:ae}{c:x}(h:a1 g v c):a1 d v c:=
 a1.rec (motive_1:= λv c f=>a1 d v c) (motive_2:= λv c f=>bp d v c) .C .d .e .f (λa f b e=>.r (k.r _ _ a aa ⟨_,_,aa⟩) e b) (λe=>.c (k.l _ _ e)) .h .l (λf f a b=>.a a b) h
variable{v bX DL DM:bl}{bv yr:n ae}{k I bj dK nz:E}{p U aM cC cx kw d2:x}{bE h' EU:ae}{ar e4 Fs:Type}{kf:n (ar×ae)}{fg jA:n (ar×x)}{cg kA:n (j×x)}{p2 DJ:ae->m->Prop}{jo:Tok}{t:cQ}{iH:ac×ac}{aZ df:aX}{hm DK:ac->Prop}{c bb tJ:Z}{ap hp:b1}{ak gJ:ac}{mm DN:g3}{ct nn Hf:n ar}{bW b8 tP Fq:ar}{iI:n e4}{mn ys:e4}{io:E->Prop}{kI:j->Prop}{fL:Q ar}{oY:ar->Prop}{bs rs:bm}{cS:x->Prop}{lj:Model}{rM:Ctx}{cE km tH:b0}{p9:hg ar}{a8:eb}{dN qd:ae->b1->Prop}{mu:x->Q m}{au cV eK d' mQ:bk}{mv:Program}{c5:dC eL}{i7:mX->b1->Prop}{dp:dC ae}{jR:Frag}{lS:n eL}{o6:j->j->(bm->b1->Prop)->b1->Prop}{cu HA:m×m}{aj dt:aO}{f7 Fp:ar->Q e4}{lT xJ:ar->e4}{aG cF mA:ay}{hF:ay->Prop}{qg:aH->b0->ar}{nY yT yU:Q ay}{my:rf}
theorem bp.r {P:n ae->E->Prop}(i:P [] [])(c:∀{g x e f},a1 v g x->bp v e f->P e f->P (g::e) (x::f)){e:n ae}{f:E}(h:bp v e f):P e f:=
 bp.rec (motive_1:= λd d d=>fZ) (motive_2:= λe f d=>P e f) bY (λd=>bY) (λd d=>bY) (λd d=>bY) (λd d d d=>bY) (λd=>bY) (λd=>bY) i (λa b d j=>c a b j) h
theorem bp.u (k:gh v bX){b:n ae}{x:E}(h:bp v b x):bp bX b x:=h.r (P:= λb x=>bp bX b x) .l λa d c=>.a (a.u k) c
def a1.aw {g:bl}{v:ae}{l:E}(i:a1 g v (.r l)):∃a b n,v=.ref a/\g.c.heap.get? a=O {cls:=.type "tuple",data:=.seq b n}/\bp g b.toList l/\L l<=de:=by cases i with|r a b j=>exact⟨_,_,_,aa,a,b,j⟩
def a1.an {g:bl}{v:ae}{i:j}(a:a1 g v (.c i)):∃p,v=.ref p.1/\g.a[i]?=O p:=by cases a with|c b=>exact⟨_,aa,b⟩
def a1.aN {g:bl}{v:ae}{a:ac}(r:a1 g v (.h a)):v=.ref a:=by cases r;rfl
def a1.a2 {g:bl}{v:ae}{i:m}(r:a1 g v (.e i)):∃t,v=.int i t:=by cases r;exact⟨_,aa⟩
def a1.a4 {g:bl}{v:ae}{i:aH}(r:a1 g v (.f i)):∃t,v=.str i t:=by cases r;exact⟨_,aa⟩
@[elab_as_elim]def a1.K {g:bl}{v:ae}{i:m}{P:ae->Prop}(r:a1 g v (.e i))(k:∀t,P (.int i t)):P v:=r.a2.elim λt e=>e▸k t
@[elab_as_elim]def a1.aR {g:bl}{v:ae}{i:aH}{P:ae->Prop}(r:a1 g v (.f i))(k:∀t,P (.str i t)):P v:=r.a4.elim λt e=>e▸k t
@[elab_as_elim]def a1.X {g:bl}{v:ae}{i:j}{P:ae->Prop}(r:a1 g v (.c i)) (k:∀p:ac×ac,g.a[i]?=O p->P (.ref p.1)):P v:=r.an.elim λp e=>e.1▸k p e.2
@[elab_as_elim]theorem a1.ab {g:bl}{v:ae}{l:E}{P:ae->Prop}(r:a1 g v (.r l))(k:∀a b n,g.c.heap.get? a=O {cls:=.type "tuple",data:=.seq b n}->bp g b.toList l->L l<=de->P (.ref a)):P v:=
  ke r.aw λa c n e d f h=>e▸k a c n d f h
def bp.e (h:bp v bv k):L bv=L k:=h.r (P:= λbv k=>L bv=L k) aa λa a b=>cp (·+1) b
def bp.i (h:bp v bv k)(r:bp v yr I):bp v (bv++yr) (k++I):=h.r (P:= λbv k=>bp v (bv++yr) (k++I)) r λa c b=>.a a b
theorem bp.b (h:bp v bv k):k[f]?=O p->∃b,bv[f]?=O b/\a1 v b p:=
 h.r (P:= λbv k=>∀f,k[f]?=O p->∃b,bv[f]?=O b/\a1 v b p) (λf e=>by rw[xR]at e;injection e)
   (λ{b} _ _ _ a _ d f=>dx (motive:= λf=>(_::_)[f]?=O p->∃c,(_::_)[f]?=O c/\a1 v c p) f (λe=>⟨b,aa,aY e▸a⟩) λf e=>d f e) f
theorem bp.af (h:bp v bv k):bv[f]?=O bE->∃x,k[f]?=O x/\a1 v bE x:=
 h.r (P:= λbv k=>∀f,bv[f]?=O bE->∃x,k[f]?=O x/\a1 v bE x) (λf e=>by rw[xR]at e;injection e)
   (λ{_ x} _ _ a _ c f=>dx (motive:= λf=>(_::_)[f]?=O bE->∃b,(_::_)[f]?=O b/\a1 v bE b) f (λe=>⟨x,aa,aY e▸a⟩) λf e=>c f e) f
theorem bp.take (b:j)(h:bp v bv k):bp v (bv.take b) (k.take b):=
 h.r (P:= λbv k=>∀b,bp v (bv.take b) (k.take b)) (λb=>by rw[JZ,JZ];exact .l) (λa d c b=>dx (motive:= λb=>bp v (List.take b (_::_)) (List.take b (_::_))) b .l λb=>.a a (c b)) b
theorem bp.drop (c:j)(h:bp v bv k):bp v (bv.drop c) (k.drop c):=
 h.r (P:= λbv k=>∀c,bp v (bv.drop c) (k.drop c)) (λc=>by rw[J0,J0];exact .l) (λa b d c=>dx (motive:= λc=>bp v (List.drop c (_::_)) (List.drop c (_::_))) c (.a a b) λc=>d c) c
theorem bp.X (i:j){c:ae}{d:x}(h:bp v bv k)(r:a1 v c d):bp v (bv.set i c) (k.set i d):=
 h.r (P:= λbv k=>∀i,bp v (bv.set i c) (k.set i d)) (λf=>.l) (λa b e i=>dx (motive:= λi=>bp v (List.set (_::_) i c) (List.set (_::_) i d)) i (.a r b) λi=>.a a (e i)) i
theorem bp.dropLast (r:bp v bv k):bp v bv.dropLast k.dropLast:=by rw[ah6,ah6,r.e];exact r.take _
def bp.ew (r:a1 v bE p):bp v [bE] [p]:=.a r .l
class inductive dM {K:Type}(g:bl):n (K×ae)->n (K×x)->Prop
 |l:dM g [] []
 |a {k:K}{v:ae}{b:x}{c:n (K×ae)}{d:n (K×x)}:a1 g v b->dM g c d->dM g ((k,v)::c) ((k,b)::d)
theorem dM.u (k:gh v bX){b:n (ar×ae)}{c:n (ar×x)}(h:dM v b c):dM bX b c:=by
 induction h with
 |l=>exact .l
 |a d _ e=>exact .a (d.u k) e
def dM.i (h:dM v kf fg):kf.map (·.1)=fg.map (·.1):=by
 induction h with
 |l=>rfl
 |a _ _ b=>exact cp _ b
def dM.e (h:dM v kf fg):L kf=L fg:=by
 induction h with
 |l=>rfl
 |a _ _ b=>exact cp (·+1) b
def hR (l:n (j×x)):n (aH×x):=l.map λp=>(bG p.1,p.2)
def bH {K:Type} [iU K] (l:n (K×x))(y:K):be:=l.rec ab λp a f=>if p.1=y then O p.2 else f
def bF {K:Type} [iU K] (l:n (K×x))(y:K)(v:x):n (K×x):=l.rec [(y,v)] λp r f=>if p.1=y then(p.1,v)::r else p::f
theorem DF (h:∀p,p∈cg->p.1<L eF)(b:f<L eF):bH (hR cg) (bG f)=bH cg f:=by
 induction cg with
 |nil=>rfl
 |cons q r c=>
  induction q using uP with|mk k a=>
  refine(?_:(if bG k=bG f then O a else bH (hR r) (bG f))=if k=f then O a else bH r f);rw[(c λp d=>h p (dy _ d))];by_cases e:k=f
  ·subst e;simp
  ·rw[ce e,ce λq=>e (vx (h _ (db ..)) b q)]
theorem DG (v:x)(h:∀p,p∈cg->p.1<L eF)(b:f<L eF):bF (hR cg) (bG f) v=hR (bF cg f v):=by
 induction cg with
 |nil=>rfl
 |cons q r c=>
  induction q using uP with|mk k a=>
  refine(?_:(if bG k=bG f then(bG k,v)::hR r else(bG k,a)::bF (hR r) (bG f) v)=hR (if k=f then(k,v)::r else(k,a)::bF r f v));rw[(c λp d=>h p (dy _ d))];by_cases e:k=f
  ·subst e;simp[hR]
  ·rw[ce e,ce λq=>e (vx (h _ (db ..)) b q)];rfl
theorem DH (v:x)(h:∀p,p∈cg->p.1<f)(c:z<f)(p:j×x)(a:p∈bF cg z v):p.1<f:=by
 induction cg with
 |nil=>rw[cz.mp (show p∈[(z,v)]from a)];exact c
 |cons q r d=>
  induction q using uP with|mk k b=>
  have a:p∈(if k=z then(k,v)::r else(k,b)::bF r z v):=a;by_cases e:k=z
  ·rw[cP e]at a;rcases fw.mp a with rfl|a
   ·exact h (k,b) (db ..)
   ·exact h p (dy _ a)
  ·rw[ce e]at a;rcases fw.mp a with rfl|a
   ·exact h (k,b) (db ..)
   ·exact(d λp a=>h p (dy _ a)) a
theorem MW {K:Type} [iU K] {k y:K}{v:ae}{a:n (K×ae)}:ra ((k,v)::a) y=if k=y then O v else ra a y:=by
 refine(?_:Option.map _ (match an (k=y)with|true=>O (k,v)|false=>List.find? _ a)=_);by_cases e:k=y
 ·rw[dz e,cP e];rfl
 ·rw[cL e,ce e];rfl
theorem dM.at {K:Type} [iU K] {g:bl}{v:n (K×ae)}{b:n (K×x)}(h:dM g v b)(y:K):match bH b y with|some z=>∃u,ra v y=O u/\a1 g u z|none=>ra v y=none:=by
 induction h with
 |l=>rfl
 | @a k v b i c d _ f=>
   rw[MW,show bH ((k,b)::c) y=if k=y then O b else bH c y from aa];by_cases e:k=y
   ·rw[cP e,cP e];exact⟨v,aa,d⟩
   ·rw[ce e,ce e];exact f
theorem MX {K:Type} [iU K] {k y:K}{u w:ae}{a:n (K×ae)}(b:k∉a.map (·.1)):uS ((k,u)::a) y w=if k=y then(k,w)::a else(k,u)::uS a y w:=by
 delta uS;by_cases e:k=y
 ·subst e;rw[cP aa,xS,dz aa,Bool.true_or,cP aa,oz,cP aa,PySem.map_store_of_not_mem a k w b]
 ·rw[ce e,xS,cL e,Bool.false_or,oz,ce e];split<;>rfl
theorem dM.stored {K:Type} [iU K] {g:bl}{w:ae}{z:x}(i:a1 g w z){v:n (K×ae)}{c:n (K×x)}(h:dM g v c)(d:(v.map (·.1)).Nodup)(y:K):dM g (uS v y w) (bF c y z):=by
 induction h with
 |l=>exact .a i .l
 | @a k u c o f j b m=>
   have d:=pL.mp d;rw[MX d.1,show bF ((k,c)::f) y z=if k=y then(k,z)::f else(k,c)::bF f y z from aa];by_cases e:k=y
   ·rw[cP e,cP e];exact .a i b
   ·rw[ce e,ce e];exact .a j (m d.2)
class inductive e3 (g:bl):n eL->n (j×x)->Prop
 |l:e3 g [] []
 |a {k:j}{y:m}{t:Tok}{v:ae}{b:x}{c:n eL}{d:n (j×x)}:k<L eF->a1 g v b->e3 g c d->e3 g (⟨y,.str (bG k) t,v⟩::c) ((k,b)::d)
theorem e3.u (k:gh v bX){b:n eL}{c:n (j×x)}(h:e3 v b c):e3 bX b c:=by
 induction h with
 |l=>exact .l
 |a d e _ f=>exact .a d (e.u k) f
def DI (g:bl)(d:ac)(a:n (j×x)):Prop:=∃b c,g.c.heap.get? d=O {cls:=.type "dict",data:=.dict b c}/\e3 g b.toList a/\L a<=100
class inductive lN (h:fS)(P:ae->m->Prop):n ae->bk->Prop
 |l:lN h P [] []
 |a {v:ae}{i:m}{b:n ae}{c:bk}:P v i->lN h P b c->lN h P (v::b) (i::c)
def g7 (h:fS)(n:j):ae->m->Prop:=n.rec (λv g=>∃i t,v=.int i t/\g=oA i)
 λe f v g=>(∃i t,v=.int i t/\g=oA i)\/∃a b d c,v=.ref a/\h.get? a=O {cls:=.type "tuple",data:=.seq b d}/\lN h f b.toList c/\g=B2 (sA c)
def lN.imp (k:∀v i,p2 v i->DJ v i){b:n ae}{c:bk}(r:lN cM p2 b c):lN lh DJ b c:=by
 induction r with
 |l=>exact .l
 |a d _ e=>exact .a (k _ _ d) e
theorem g7.u (k:lg cM lh)(n:j):∀{v:ae}{g:m},g7 cM n v g->g7 lh n v g:=by
 induction n with
 |zero=>exact id
 |succ n b=>exact Or.imp id λcM=>cM.imp λa cM=>cM.imp λa cM=>cM.imp λa cM=>cM.imp λa cM=>⟨cM.1,k _ _ cM.2.1 aa ⟨_,_,aa⟩,cM.2.2.1.imp λc c q=>b q,cM.2.2.2⟩
theorem lN.b (d:∀v i j,p2 v i->p2 v j->i=j){e:n ae}{f:bk}(r:lN cM p2 e f):∀{c:bk},lN cM p2 e c->f=c:=by
 induction r with
 |l=>intro c q;cases q;rfl
 |a g _ h=>intro c q;cases q with|a b q=>rw[d _ _ _ g b,h q]
def g7.r (h:∃i jo,bE=.int i jo/\o=oA i)(e:bE=.int d jo):o=oA d:=
 h.elim λi h=>h.elim λu h=>by have:=h.1.symm.trans e;injection this with this;rw[h.2,this]
theorem g7.b (n:j):∀(v:ae)(i f:m),g7 cM n v i->g7 cM n v f->i=f:=by
 have k:∀{v:ae}{i f:m},(∃g t,v=.int g t/\i=oA g)->(∃g t,v=.int g t/\f=oA g)->i=f:= λa b=>b.elim λc b=>b.elim λc b=>(g7.r a b.1).trans b.2.symm;induction n with
 |zero=>exactλc c c=>k
 |succ n l=>
  intro v i f a b;refine a.elim (λa=>b.elim (λb=>k a b) λb=>?_) λa=>b.elim (λb=>?_) λb=>?_
  ·refine nL b λc c c c e c c c=>gq a λc c h c=>?_;replace e:=h.symm.trans e;injection e
  ·refine nL a λc c c c e c c c=>gq b λc c h c=>?_;replace e:=h.symm.trans e;injection e
  ·refine nL a λc c c c e d o r=>nL b λc c c c h p q s=>?_;replace e:=e.symm.trans h;injection e with e;subst e
   replace d:=aY (d.symm.trans p);injection d with _ _ d;injection d with d;subst d
   rw[r,s,o.b l q]
def i3 (c:cQ)(g:bl)(p:ac×ac):aX->Prop
 |.y l=>∃a b,g.c.heap.get? p.1=O {cls:=.type "list",data:=.seq a b}/\bp g a.toList l/\L l<=de
 |.h l=>∃a:n (m×ae),g.c.heap.DictOf (lE c.d c.c) p.1 a/\dM g a l/\L l<=de
 |.K l=>∃a:n (aH×ae),g.c.heap.DictOf (strKind c.d c.c) p.1 a/\dM g a (hR l)/\L l<=de/\∀q,q∈l->q.1<L eF
 |.c l=>∃b d,g.c.heap.get? p.1=O {cls:=.type "dict",data:=.dict b d}/\(∀e,e∈b->g7 g.c.heap 8 e.key e.hash)/\b.toList.map (·.hash)=l/\L l<=de
 |.a C b=>g.c.heap.get? p.1=O (nD C p.2)/\DI g p.2 b
 |.b=>∃x,g.c.heap.get? p.1=O x/\x.cls≠.type "tuple"
theorem i3.u (k:gh v bX)(h:∀b x,nc b iH->v.c.heap.get? b=O x->bX.c.heap.get? b=O x):i3 t v iH aZ->i3 t bX iH aZ:=by
 have d:= λx=>h iH.1 x (.inl aa);induction aZ using hf with
 |y l=>intro c;exact d0 c λe n a q z=>⟨e,n,d _ a,q.u k,z⟩
 |h l=>intro e;exact dU e λg i q z=>nJ i λx c f a r=>⟨g,⟨x,c,f,d _ a,r⟩,q.u k,z⟩
 |K l=>intro e;exact dU e λg i q z=>nJ i λx c f a r=>⟨g,⟨x,c,f,d _ a,r⟩,q.u k,z⟩
 |c l=>intro i;exact d0 i λc f a q r=>⟨c,f,d _ a,λe j=>(q e j).u k.r 8,r⟩
 |a C j=>intro e;obtain⟨a,c,n,i,r,z⟩:=e;exact⟨d _ a,c,n,(λx=>h iH.2 x (.inr aa)) _ i,r.u k,z⟩
 |b=>intro e;exact aL e λx a q=>⟨x,d _ a,q⟩
def p3 (p:ac×ac)(o:aX):Prop:=match o with|.a _ _=>p.1≠p.2|_=>p.2=p.1
structure bi (c:cQ)(H:Z)(g:bl):Prop where
 W:L g.a=L H
 h:∀(i:j) p o,g.a[i]?=O p->H[i]?=O o->i3 c g p o/\p3 p o
 k:∀(i e:j) p q b,g.a[i]?=O p->g.a[e]?=O q->nc b p->nc b q->i=e
 f:∀b,T g b->c.b.heap.objs.size<=b/\b<g.c.heap.objs.size
 a:∀b o,c.b.heap.get? b=O o->g.c.heap.get? b=O o
 d:c.b.heap.objs.size<=g.c.heap.objs.size
 gens:g.c.gens=c.b.gens
 os:g.c.os=c.b.os
structure cA (X:ac->Prop)(g a:bl):Prop extends gh g a where
 u:∀b o,g.c.heap.get? b=O o->¬T g b->¬X b->a.c.heap.get? b=O o
 c:∀b,b<g.c.heap.objs.size->T a b->T g b
 s:g.c.heap.objs.size<=a.c.heap.objs.size
abbrev d3:ac->Prop:= λa=>c8
theorem cA.D (X:ac->Prop)(g:bl):cA X g g:=⟨⟨.D _,λa a e=>e⟩,λa a e a a=>e,λa a t=>t,br _⟩
theorem cA.y (a:cA hm v DL)(b:cA hm DL DM):cA hm v DM:=
 ⟨⟨a.r.y b.r,λi p e=>b.l i p (a.l i p e)⟩,λc o e n x=>b.u c o (a.u c o e n x) (λt=>n (a.c c (gz e) t)) x,
   λc l t=>a.c c l (b.c c (iT l a.s) t),aU a.s b.s⟩
def cA.ab (a:cA hm v bX)(d:∀b,hm b->b<v.c.heap.objs.size->DK b):cA DK v bX:=
 ⟨a.togh,λc o e n x=>a.u c o e n λq=>x (d c q (gz e)),a.c,a.s⟩
def cA.eG (a:cA d3 v bX):cA hm v bX:=a.ab λb q b=>q.elim
theorem bi.e (R:bi t c v)(i:j)(p:ac×ac)(o:aX) (e:v.a[i]?=O p) (h:c[i]?=O o):i3 t v p o:=(R.h i p o e h).1
theorem bi.l (c:∀b o,t.b.heap.get? b=O o->ap.heap.get? b=O o)(d:t.b.heap.objs.size<=ap.heap.objs.size)(f:ap.gens=t.b.gens)(g:ap.os=t.b.os):bi t [] ⟨ap,[]⟩:=
 ⟨aa,λi p o e=>by rw[xR]at e;injection e,λi j p q b e=>by rw[xR]at e;injection e,λb a=>a.elim λi a=>a.elim λp a=>by rw[xR]at a;injection a.1,c,d,f,g⟩
def bi.r (R:bi t c v){i:j}{o:aX} (e:c[i]?=O o):∃p,v.a[i]?=O p:=by have:=(cs.mp e).1;rw[<-R.W]at this;exact⟨_,eM this⟩
def bi.s (R:bi t c v){b:ac}{o:g3}(e:t.b.heap.get? b=O o):¬T v b:= λa=>pM _ (iT (gz e) (R.f b a).1)
def bi.C (R:bi t c v){a:ac}(b:v.c.heap.objs.size<=a):¬T v a:= λd=>pM _ (iT (R.f a d).2 b)
theorem bi.aw (R:bi t c v)(X:gh v ⟨ap,v.a⟩)(k:∀b o,T v b->v.c.heap.get? b=O o->ap.heap.get? b=O o)(g:∀b o,t.b.heap.get? b=O o->ap.heap.get? b=O o)(a:v.c.heap.objs.size<=ap.heap.objs.size)(h:ap.gens=v.c.gens)(j:ap.os=v.c.os):bi t c ⟨ap,v.a⟩:=
 ⟨R.W,λi p o e d=>⟨(R.e i p o e d).u X λb x f=>k b x ⟨i,p,e,f⟩,(R.h i p o e d).2⟩,R.k,λb f=>⟨(R.f b f).1,iT (R.f b f).2 a⟩,g,aU R.d a,h.trans R.gens,j.trans R.os⟩
theorem bi.u (R:bi t c v)(k:∀b o,v.c.heap.get? b=O o->ap.heap.get? b=O o)(d:v.c.heap.objs.size<=ap.heap.objs.size)(f:ap.gens=v.c.gens:=by rfl)(g:ap.os=v.c.os:=by rfl):
 bi t c ⟨ap,v.a⟩/\∀X,cA X v ⟨ap,v.a⟩:=
 have S:∀X,cA X v ⟨ap,v.a⟩:= λX=>⟨⟨yq k,λa a e=>e⟩,λb o e a a=>k b o e,λa a h=>h,d⟩
 ⟨R.aw (S d3).togh (λb o a=>k b o) (λb o e=>k b o (R.a b o e)) d f g,S⟩
noncomputable def aX.e:aX->bm
 |.a .. =>af
 |_=>aN
def aX.s (h:aZ.e=aN)(C:ac)(a:n (j×x)):aZ≠.a C a:= λe=>by subst e;injection h
def td (e:cM.get? ak=O mm)(a:cM.get? ak=O DN)(n:mm.cls≠bE):DN.cls≠bE:=aY (e.symm.trans a)▸n
theorem i3.a (g:aZ.e=aN)(r:i3 t v iH aZ):∀x,v.c.heap.get? iH.1=O x->x.cls≠.type "tuple":=by
 intro x b;induction aZ using hf with
 |y l=>exact gq r λd n a c=>td a b λq=>by injection q with q;exact b6 q ⋯
 |h l=>exact aL r λi h c=>i0 h λd e f a q c=>td a b (q.1▸by decide)
 |K l=>exact aL r λi h c=>i0 h λd e f a q c=>td a b (q.1▸by decide)
 |c l=>exact gq r λe f a c=>td a b λq=>by injection q with q;exact b6 q ⋯
 |a C j=>injection g
 |b=>exact aL r λd a q=>td a b q
def MY (h:df.e=aZ.e)(k:p3 iH aZ):p3 iH df:=by
 induction aZ using hf<;>cases df<;>first|exact k|injection h
theorem bi.aL (R:bi t c v){i:j}{p:ac×ac}{o k:aX}{b:ac} (e:c[i]?=O o) (m:v.a[i]?=O p) (w:nc b p)(f:uT b v.c.heap ap.heap)(B:lg v.c.heap ap.heap)
 (C:k.e=o.e)(r:gh v ⟨ap,v.a⟩->i3 t ⟨ap,v.a⟩ p k)(D:ap.gens=v.c.gens:=by rfl)(E:ap.os=v.c.os:=by rfl):bi t (c.set i k) ⟨ap,v.a⟩/\cA d3 v ⟨ap,v.a⟩:=by
 have X:gh v ⟨ap,v.a⟩:=⟨B,λs s e=>e⟩;have A:T v b:=⟨i,p,m,w⟩;have F:∀{d:j}{x:aX},(c.set i k)[d]?=O x->(d=i/\x=k)\/(d≠i/\c[d]?=O x):= λ{d x} h=>by
  by_cases q:i=d
  ·rw[<-q,J1 ((cs.mp e).1)]at h;exact .inl ⟨q.symm,(aY h).symm⟩
  ·rw[sB q]at h;exact .inr ⟨λz=>q z.symm,h⟩
 refine⟨⟨by rw[J2];exact R.W,λd q x l G=>?_,R.k,λa u=>⟨(R.f a u).1,by show a<ap.heap.objs.size;rw[f.1];exact(R.f a u).2⟩,λa x g=>(f.2 a λz=>R.s g (z▸A)).trans (R.a a x g),by rw[f.1];exact R.d,D.trans R.gens,E.trans R.os⟩,
  ⟨X,λa x g n s=>(f.2 a λz=>n (z▸A)).trans g,λs s u=>u,he f.1.symm⟩⟩
 refine(F G).elim (λh=>?_) λh=>⟨(R.e d q x l h.2).u X λa y g n=>(f.2 a λz=>h.1 (R.k d i q p a l m g (z▸w))).trans n,(R.h d q x l h.2).2⟩
 ·rw[h.1,m]at l;rw[h.2,<-aY l];exact⟨r X,MY C (R.h i p o m e).2⟩
theorem bi.X (R:bi t c v){i:j}{p:ac×ac}{o b:aX} (e:c[i]?=O o) (d:v.a[i]?=O p) (f:o.e=aN)(k:b.e=aN)(g:uT p.1 v.c.heap ap.heap)
 (r:gh v ⟨ap,v.a⟩->i3 t ⟨ap,v.a⟩ p b)(l:ap.gens=v.c.gens:=by rfl)(m:ap.os=v.c.os:=by rfl):bi t (c.set i b) ⟨ap,v.a⟩/\cA d3 v ⟨ap,v.a⟩:=
 R.aL e d (.inl aa) g (λa x h n s=>by
   by_cases q:a=p.1
   ·subst q;exact b6 n ((R.e i p o d e).a f x h)
   ·exact(g.2 a q).trans h) (k.trans f.symm) r l m
theorem bi.aP (R:bi t c v){i:j}{p:ac×ac}{C:ac}{h g:n (j×x)} (e:c[i]?=O (.a C h)) (d:v.a[i]?=O p) (f:uT p.2 v.c.heap ap.heap)
 (r:gh v ⟨ap,v.a⟩->DI ⟨ap,v.a⟩ p.2 g)(k:ap.gens=v.c.gens:=by rfl)(l:ap.os=v.c.os:=by rfl):bi t (c.set i (.a C g)) ⟨ap,v.a⟩/\cA d3 v ⟨ap,v.a⟩:=by
 obtain⟨m,u,u,o,_⟩:=R.e _ _ _ d e;exact R.aL e d (.inr aa) f (λa u b s u=>by
  by_cases q:a=p.2
  ·subst q;rw[o]at b;replace b:=aY b;subst b;exact b6 s (by intro z;simp at z)
  ·exact(f.2 a q).trans b) aa (λX=>⟨(f.2 _ (R.h _ _ _ d e).2).trans m,r X⟩) k l
theorem rD (h:(ct++[bW])[f]?=O b8):ct[f]?=O b8\/(f=L ct/\b8=bW):=by
 by_cases q:f<L ct
 ·rw[ek q]at h;exact .inl h
 ·have e:f=L ct:=kB (B6 (Nat.lt_of_lt_of_eq (cs.mp h).1 a6)) (lC q);rw[e,iC]at h;exact .inr ⟨e,(aY h).symm⟩
theorem MZ (b:L ct=L iI) (h:(ct++[bW])[f]?=O b8) (a:(iI++[mn])[f]?=O ys):(ct[f]?=O b8/\iI[f]?=O ys)\/(b8=bW/\ys=mn):=by
 refine(rD h).elim (λe=>.inl ⟨e,?_⟩) λe=>.inr ⟨e.2,?_⟩
 ·rw[ek (b▸(cs.mp e).1)]at a;exact a
 ·rw[e.1,b,iC]at a;exact(aY a).symm
theorem bi.ab (R:bi t c v){p:ac×ac}{o:aX}(m:p3 p o)(g:∀b,nc b p->¬T v b/\t.b.heap.objs.size<=b/\b<v.c.heap.objs.size)(X:gh v ⟨v.c,v.a++[p]⟩)(r:i3 t ⟨v.c,v.a++[p]⟩ p o):bi t (c++[o]) ⟨v.c,v.a++[p]⟩:=by
 refine⟨by rw[a6,a6,R.W];rfl,λi q x e f=>?_,λi j q l b e f d k=>(rD e).elim (λh=>(rD f).elim (λa=>R.k i j q l b h a d k) λa=>b6 ⟨i,q,h,d⟩ (g b (a.2▸k)).1) λh=>(rD f).elim (λa=>b6 ⟨j,l,a,k⟩ (g b (h.2▸d)).1) λa=>h.1.trans a.1.symm,λb n=>gq n λi q e d=>(rD e).elim (λh=>R.f b ⟨i,q,h,d⟩) λh=>(g b (h.2▸d)).2,R.a,R.d,R.gens,R.os⟩
 ·refine(MZ R.W e f).elim (λh=>⟨(R.e i q x h.1 h.2).u X λa a a h=>h,(R.h i q x h.1 h.2).2⟩) λh=>?_;rw[h.1,h.2];exact⟨r,m⟩
theorem bi.al (R:bi t c v){p:ac×ac}{o:aX}(g:v.c.heap.objs.size<=p.1/\v.c.heap.objs.size<=p.2)(s:p3 p o)(k:∀b x,v.c.heap.get? b=O x->ap.heap.get? b=O x)(l:v.c.heap.objs.size<=ap.heap.objs.size)
 (m:p.1<ap.heap.objs.size/\p.2<ap.heap.objs.size)(r:gh v ⟨ap,v.a++[p]⟩->i3 t ⟨ap,v.a++[p]⟩ p o)(u:ap.gens=v.c.gens:=by rfl)(w:ap.os=v.c.os:=by rfl):bi t (c++[o]) ⟨ap,v.a++[p]⟩/\cA d3 v ⟨ap,v.a++[p]⟩:=by
 have n:∀(i:j)(q:ac×ac),v.a[i]?=O q->(v.a++[p])[i]?=O q:= λi q e=>by rw[ek (cs.mp e).1];exact e
 have d:∀{b:ac},nc b p->v.c.heap.objs.size<=b:= λa=>a.elim (λe=>e▸g.1) λe=>e▸g.2;have X:gh v ⟨ap,v.a++[p]⟩:=⟨yq k,n⟩;exact⟨(R.u k l u w).1.ab s (λb a=>⟨λf=>R.C (d a) f,aU R.d (d a),a.elim (λe=>e▸m.1) λe=>e▸m.2⟩) ⟨.D _,n⟩ (r X),X,λb x y z z=>k b x y,λb A f=>gq f λi q e a=>((rD e).elim (λh=>⟨i,q,h,a⟩) λh=>b6 A (hw.mpr (d (h.2▸a)))),l⟩
theorem bi.K (R:bi t c v){a:ac}{o:aX}(f:o.e=aN)(d:v.c.heap.objs.size<=a)(k:∀b x,v.c.heap.get? b=O x->ap.heap.get? b=O x)(g:v.c.heap.objs.size<=ap.heap.objs.size)(e:a<ap.heap.objs.size)
 (r:gh v ⟨ap,v.a++[(a,a)]⟩->i3 t ⟨ap,v.a++[(a,a)]⟩ (a,a) o)(h:ap.gens=v.c.gens:=by rfl)(i:ap.os=v.c.os:=by rfl):bi t (c++[o]) ⟨ap,v.a++[(a,a)]⟩/\cA d3 v ⟨ap,v.a++[(a,a)]⟩:=
 R.al ⟨d,d⟩ (by induction o using hf<;>first|rfl|injection f) k g ⟨e,e⟩ r h i
def a1.aP {s:b1}{a:n (ac×ac)}{p:ac×ac}:a1 ⟨s,a++[p]⟩ (.ref p.1) (.c (L a)):=.c (by simp)
theorem bi.D (R:bi t c v){a:ac}(j:¬T v a)(k:t.b.heap.objs.size<=a)(l:∀o,v.c.heap.get? a=O o->¬∃m n,o.data=.seq m n)(f:J3 a v.c.heap ap.heap)(i:v.c.heap.objs.size<=ap.heap.objs.size)(p:ap.gens=v.c.gens:=by rfl)(r:ap.os=v.c.os:=by rfl):
 bi t c ⟨ap,v.a⟩/\cA (λb=>b=a) v ⟨ap,v.a⟩:=by
 have s:lg v.c.heap ap.heap:= λb o e w d=>by
  by_cases q:b=a
  ·subst q;exact b6 d (l _ e)
  ·exact f b o q e
 have X:gh v ⟨ap,v.a⟩:=⟨s,λg g e=>e⟩;exact⟨R.aw X (λb x h=>f b x λq=>j (q▸h)) (λb o e=>f b o (λq=>pM _ (iT (gz e) (q▸k))) (R.a b o e)) i p r,X,λb o e g u=>f b o u e,λg g h=>h,i⟩
def SameBut.ext (a:uT ak cM lh):J3 ak cM lh:= λb o q e=>(a.2 b q).trans e
open Internal.x renaming casesOn->eh
noncomputable abbrev x.D {a:Sort u}(v:x)(d:a)(n:a:=d)(b:bm->a:= λc=>d)(i:m->a:= λc=>d)(s:aH->a:= λc=>d)(t:E->a:= λc=>d)(r:j->a:= λc=>d)(g:ac->a:= λc=>d):a:=v.casesOn n b i s t r g
noncomputable abbrev aX.D {a:Sort u}(o:aX)(d:a)(l:E->a:= λb=>d)(i:b2->a:= λb=>d)(s:n (j×x)->a:= λb=>d)(h:bk->a:= λb=>d)(c:ac->n (j×x)->a:= λb b=>d):a:=o.casesOn l i s h c d
inductive vy where
 |C|d (b:bm)|e (i:m)|f (s:aH)|bG (i:j)
def vy.u (k:vy):x:=match k with
 |.C=>.C|.d b=>.d b|.e i=>.e i|.f s=>.f s|.bG i=>.f (Internal.bG i)
inductive kg where
 |d (n:j)|i|a|s|b
set_option genCtorIdx true in
inductive oV where
 |W|a|y|f|b
mutual
inductive av where
 |d (v:vy)
 |s (i:j)
 |u (i:m)
 |aa (a:ac)
 |I (l:bk)
 |r (l:n av)
 |y (l:n av)
 |q (g:mV)(a b:av)
 |E (a:av)
 |z (a:av)
 |J (g:oB)(l:n av)
 |p (g:mW)(a b:av)
 |ep (c c:mW)(a b c:av)
 |C (t a b:av)
 |x (e:av)(c:j)
 |bz (e i:av)
 |B (e:av)(c:j)
 |N (e h:av)
 |lc (e p:av)
 |M (e p h:av)
 |w (f:ac)(d:n av)
 |D (o:av)(c:kg)(d:n av)
 |A (c:oV)(d:n av)
 |isStr (e:av)
 |L (e:av)
 |G (k:j)
 |h (l:n av)
 |K (l:n av)
 |H (f:av)(f:dn)(f:cd)(f:nd)(f:n av)
inductive nd where
 |a (e:av)
 |e5 (d:n av)
inductive dn where
 |s (i:j)
 |x (e:av)(c:j)
 |bz (e i:av)
 |B (e:av)(c:j)
 |r (l:n dn)
end
inductive H where
 |f (e:av)
 |d (t:dn)(e:av)
 |m (i:j)(d:mV)(e:av)
 |p (o:av)(a:j)(d:mV)(e:av)
 |h (t:av)(a b:n H)
 |k (t:dn)(b:nd)(a:n H)
 |q (t:av)(a:n H)
 |c (e:av)
 |r
 |s
 |l
inductive nQ where
 |next
 |c (v:x)
abbrev aS:=n be
abbrev bZ:=nQ->aS->Z->Prop
abbrev f4:=x->aS->Z->bZ->Prop
def im (L:aS)(i:j):be:=L.rec (motive:= λb=>j->be) (λb=>ab) (λa b f i=>i.casesOn a f) i
def kh (L:aS)(i:j)(v:x):aS:=L.rec (motive:= λb=>j->aS) (λb=>[]) (λa r f i=>i.casesOn (O v::r) λn=>a::f n) i
abbrev aQ:=ac->E->Z->bg->Prop
section
variable(oW:x)(M0:Z)
def cR (K:m->Prop):Prop:=oW.D c8 (i:=K)
def te (K:aH->Prop):Prop:=oW.D c8 (s:=K)
def tf (K:E->Prop):Prop:=oW.D c8 (t:=K)
def jp (K:j->Prop):Prop:=oW.D c8 (r:=K)
def DO (K:ac->Prop):Prop:=oW.D c8 (g:=K)
def oX (K:Prop):Prop:=oW.D c8 (n:=K)
def a7 (o:Q ar)(K:ar->Prop):Prop:=match o with|some a=>K a|none=>c8
def dE (b:bm)(K:Prop):Prop:=match b with|true=>K|false=>c8
def fa (n:j)(K:Prop):Prop:=dE (e1 n de) K
def yt (o:aX)(K:E->Prop):Prop:=o.D c8 (l:=K)
def tg (o:aX)(K:n (j×x)->Prop):Prop:=o.D c8 (s:=K)
def vz (o:aX)(K:ac->n (j×x)->Prop):Prop:=o.D c8 (c:=K)
def f5 (i:j)(K:E->Prop):Prop:=a7 M0[i]? λo=>yt o K
def ew (l:E)(K:x->Prop):Prop:=match l with|oW::r=>(match r with|[]=>K oW|_::_=>c8)|[]=>c8
def rE (l:E)(K:Prop):Prop:=match l with|[]=>K|_::_=>c8
end
inductive th {a:Type}(f:a->x)(v:x)(K:a->Prop):Prop
 |mk (i:a)(e:v=f i)(h:K i)
inductive vA {b:Type}(o:Q b)(K:b->Prop):Prop
 |mk (a:b)(e:o=O a)(h:K a)
inductive DP {a:Type}(f:a->aX)(o:aX)(K:a->Prop):Prop
 |mk (i:a)(e:o=f i)(h:K i)
inductive M1 (o:aX)(K:ac->n (j×x)->Prop):Prop
 |mk (C:ac)(a:n (j×x))(e:o=.a C a)(h:K C a)
inductive IsL (H:Z)(i:j)(K:E->Prop):Prop
 |mk (l:E) (e:H[i]?=O (.y l)) (h:K l)
inductive M2 (l:E)(K:x->Prop):Prop
 |mk (v:x)(e:l=[v])(h:K v)
def vB {K:m->Prop}(h:cR p K):th .e p K:=by induction p using eh<;>first|exact⟨_,aa,h⟩|exact iV h
def aiZ {K:aH->Prop}(h:te p K):th .f p K:=by induction p using eh<;>first|exact⟨_,aa,h⟩|exact iV h
def M3 (h:tf p io):th .r p io:=by induction p using eh<;>first|exact⟨_,aa,h⟩|exact iV h
def ti (h:jp p kI):th .c p kI:=by induction p using eh<;>first|exact⟨_,aa,h⟩|exact iV h
def M4 (h:DO p hm):th .h p hm:=by induction p using eh<;>first|exact⟨_,aa,h⟩|exact iV h
def M5 (h:oX p aV):p=.C/\aV:=by induction p using eh<;>first|exact⟨aa,h⟩|exact iV h
def DQ (h:a7 fL oY):vA fL oY:=by induction fL using gA with|none=>exact iV h|some a=>exact⟨a,aa,h⟩
def nR (h:dE bs aV):bs=af/\aV:=by induction bs using fD with|false=>exact iV h|true=>exact⟨aa,h⟩
def fh (h:bs=af)(k:aV):dE bs aV:=by subst h;exact k
def DR (h:fa f aV):f<=de/\aV:=⟨ea (nR h).1,(nR h).2⟩
def fM (h:f<=de)(k:aV):fa f aV:=fh (f0 h) k
def DS (h:yt aZ io):DP .y aZ io:=by induction aZ using hf<;>first|exact⟨_,aa,h⟩|exact iV h
def DT {K:n (j×x)->Prop}(h:tg aZ K):DP .K aZ K:=by induction aZ using hf<;>first|exact⟨_,aa,h⟩|exact iV h
def DU {K:ac->n (j×x)->Prop}(h:vz aZ K):M1 aZ K:=by induction aZ using hf<;>first|exact⟨_,_,aa,h⟩|exact iV h
def tj (h:f5 c f io):IsL c f io:=by obtain⟨o,e,h⟩:=DQ h;obtain⟨l,rfl,h⟩:=DS h;exact⟨l,e,h⟩
def ki (e:c[f]?=O (.y k)) (a:io k):f5 c f io:=by unfold f5;rw[e];exact a
def nf (h:ew k cS):M2 k cS:=by
 induction k using cv with
 |nil=>exact iV h
 |cons p r=>induction r using cv with|nil=>exact⟨p,aa,h⟩|cons _ _=>exact iV h
def tk (h:rE k aV):k=[]/\aV:=by induction k using cv with|nil=>exact⟨aa,h⟩|cons _ _=>exact iV h
def h9 (f:x->Q lF)(l:E):Q (n lF):=l.rec (O []) λv a i=>(f v).bind λd=>i.map (d::·)
def rF (v:x):Q PyData:=v.D ab (n:=O .none) (b:= λb=>O (.bool b)) (i:= λi=>O (.int i)) (s:= λs=>if md s then O (.str s)else ab)
def i4 (H:Z)(n:j):x->Q PyData:=n.rec rF λa f v=>v.D (rF v) (t:= λl=>(h9 f l).map uU) (r:= λi=>H[i]?.bind λo=>o.D ab (l:= λl=>(h9 f l).map B7))
def dg (H:Z)(a y:x)(K:bm->Prop):Prop:=a7 (i4 H 6 a) λd=>a7 (i4 H 6 y) λe=>K (pN d e)
def lO (H:Z)(a:x)(l:E)(K:bm->Prop):Prop:=a7 (i4 H 6 a) λd=>a7 (h9 (i4 H 6) l) λb=>K (b.any λe=>pN e d)
noncomputable def nS (l:n ar):Bool:=match l with|[]=>af|_::_=>aN
def DV (o:aX):Q Bool:=o.D ab (l:= λl=>O (!nS l))
def li (H:Z)(v:x):Q Bool:=v.D ab (n:=O aN) (b:=O) (i:= λi=>O (!an (i=0))) (t:= λl=>O (!nS l)) (r:= λa=>H[a]?.bind DV)
noncomputable def dD (l:E)(i:m):be:=match i with
 |.ofNat k=>l[k]?
 |.negSucc _=>ab
def mk (H:Z)(o:aX)(Q:bg):Prop:=Q (.c (L H)) (H++[o])
def rG (c y:x)(H:Z)(Q:bg):Prop:=c.D c8
 (i:= λi=>cR y λj=>Q (.e (i+j)) H)
 (t:= λl=>tf y λm=>fa (L l+L m) (Q (.r (l++m)) H))
 (s:= λs=>te y λt=>fa (s.length+t.length) (Q (.f (s++t)) H))
 (r:= λa=>f5 H a λl=>jp y λb=>f5 H b λm=>fa (L l+L m) (mk H (.y (l++m)) Q))
noncomputable def rH (i:m):Bool:=e1 i.natAbs (10^18)
def vC (b y:x)(H:Z)(Q:bg):Prop:=b.D c8
 (i:= λi=>cR y λj=>dE (rH i) (Q (.e (i*j)) H))
 (r:= λa=>f5 H a λl=>ew l λv=>cR y λj=>dE (an (0<=j)) (fa j.toNat (mk H (.y (iW j.toNat v)) Q)))
def ng (b:mV)(a y:x)(H:Z)(Q:bg):Prop:=match b with
 |.Add=>rG a y H Q
 |.Sub=>cR a λi=>cR y λj=>Q (.e (i-j)) H
 |.Mult=>vC a y H Q
 |.Mod=>cR a λi=>cR y λj=>dE (!an (j=0)) (Q (.e (i.fmod j)) H)
 |.FloorDiv=>cR a λi=>cR y λj=>dE (!an (j=0)) (dE (rH i) (dE (rH j) (Q (.e (i.fdiv j)) H)))
 |.BitAnd=>cR a λi=>cR y λj=>Q (.e (Builtin.bitAnd i j)) H
 |.BitOr=>cR a λi=>cR y λj=>Q (.e (Builtin.bitOr i j)) H
 |_=>c8
def jP (v:x):Bool:=v.D aN (n:=af)
def yu (a:x)(H:Z)(o:aX)(K:bm->Prop):Prop:=o.D c8
 (l:= λl=>lO H a l K)
 (i:= λl=>a.D c8 (i:= λk=>K (bH l k).isSome) (s:= λb=>dE (nS l) (K aN)))
def p4 (P:gT)(b y:x)(H:Z)(K:bm->Prop):Prop:=y.D c8
 (t:= λl=>lO H b l K)
 (r:= λi=>a7 H[i]? λo=>yu b H o K)
 (g:= λa=>a7 (P.e a) λl=>cR b λk=>K (bH l k).isSome)
def mo (P:gT)(c:mW)(a y:x)(H:Z)(K:bm->Prop):Prop:=match c with
 |.Eq=>dg H a y K
 |.NotEq=>dg H a y λb=>K (!b)
 |.Lt=>cR a λi=>cR y λj=>K (an (i<j))
 |.LtE=>cR a λi=>cR y λj=>K (an (i<=j))
 |.Gt=>cR a λi=>cR y λj=>K (an (j<i))
 |.GtE=>cR a λi=>cR y λj=>K (an (j<=i))
 |.Is=>oX y (K (jP a))
 |.IsNot=>oX y (K (!jP a))
 |.In=>p4 P a y H K
 |.NotIn=>p4 P a y H λb=>K (!b)
noncomputable def g8 (n:j):Bool:=kC n 102
def gi (i:x)(o:aX)(K:x->Prop):Prop:=o.D c8
 (l:= λl=>cR i λn=>a7 (dD l n) K)
 (i:= λl=>cR i λn=>a7 (bH l n) K)
 (s:= λl=>te i λs=>dE (g8 (e2 s)) (a7 (bH l (e2 s)) K))
def ed (P:gT)(o i:x)(H:Z)(K:x->Prop):Prop:=o.D c8
 (t:= λl=>cR i λn=>a7 (dD l n) K)
 (r:= λa=>a7 H[a]? λb=>gi i b K)
 (g:= λa=>a7 (P.e a) λl=>cR i λn=>a7 (bH l n) K)
def eP (o:x)(n:j)(H:Z)(K:x->Prop):Prop:=jp o λa=>a7 H[a]? λb=>tg b λl=>a7 (bH l n) K
def yv (P:gT)(o c:x)(H:Z)(Q:bg):Prop:=DO o λa=>a7 (P.y a) λl=>cR c λb=>dE (an (0<=b)) (match l with
 |[]=>mk H (.y []) Q
 |_::_=>mk (H++[.b]) (.y (l.take b.toNat)) Q)
def yw (o b:x)(H:Z)(Q:bg):Prop:=o.D c8
 (t:= λl=>cR b λn=>dE (an (1<=n)&&an (n<=L l)) (Q (.r (l.drop n.toNat)) H))
 (r:= λa=>f5 H a λl=>cR b λn=>dE (an (0<=n)&&an (n<=L l)) (mk H (.y (l.drop n.toNat)) Q))
def vD (o b c:x)(H:Z)(Q:bg):Prop:=jp o λa=>f5 H a λl=>cR b λn=>cR c λm=>
 dE (an (0<=n)&&an (n<=m)&&an (m<=L l)) (mk H (.y ((l.drop n.toNat).take (m.toNat-n.toNat))) Q)
def p5 (f:x->Q m)(l:E):Q bk:=l.rec (O []) λv a i=>(f v).bind λd=>i.map (d::·)
def yx (n:j):x->Q Int:=n.rec (λv=>v.D ab (i:= λi=>O (oA i))) λb f v=>v.D ab (i:= λi=>O (oA i)) (t:= λl=>(p5 f l).map λa=>B2 (sA a))
def yy (v:x):Q Int:=v.D ab (t:= λl=>yx 8 (.r l))
def yz (i v:x)(H:Z)(a:j)(o:aX)(Q:bI):Prop:=o.D c8
 (l:= λl=>cR i λn=>dE (an (0<=n)&&an (n<L l)) (Q (H.set a (.y (l.set n.toNat v)))))
 (i:= λl=>cR i λn=>fa (L l+1) (Q (H.set a (.h (bF l n v)))))
 (s:= λl=>te i λs=>dE (g8 (e2 s)) (fa (L l+1) (Q (H.set a (.K (bF l (e2 s) v))))))
 (h:= λl=>a7 (yy i) λh=>dE (!l.contains h) (fa (L l+1) (Q (H.set a (.c (l++[h]))))))
def mp (o i v:x)(H:Z)(Q:bI):Prop:=jp o λa=>a7 H[a]? λb=>yz i v H a b Q
def rI (o:x)(n:j)(v:x)(H:Z)(Q:bI):Prop:=jp o λa=>a7 H[a]? λb=>tg b λl=>dE (g8 n) (fa (L l+1) (Q (H.set a (.K (bF l n v)))))
def gH (P:gT)(o:x)(n:j)(H:Z)(K:x->Prop):Prop:=jp o λa=>a7 H[a]? λb=>vz b λC c=>dE (P.x C n) (a7 (bH c n) K)
def vE (P:gT)(o:x)(n:j)(v:x)(H:Z)(Q:bI):Prop:=jp o λa=>a7 H[a]? λc=>vz c λC b=>dE (P.x C n) (dE (kC (L b) 100) (Q (H.set a (.a C (bF b n v)))))
def nT (H:Z)(v:x):Q E:=v.D ab (t:=O) (r:= λa=>H[a]?.bind λo=>o.D ab (l:=O))
set_option genCtorIdx true in
inductive i5 where
 |d (f:ac)|i|a|s|b
def DW (P:gT)(n:j)(o:aX):Q i5:=o.D ab (c:= λK a=>(match bH a n with|none=>(P.D K n).map .d|some _=>ab))
def vF (c:i5)(o:aX):Q i5:=o.D ab (l:= λa=>O c)
def DX (o:aX):Q i5:=o.D ab (i:= λa=>O .b) (h:= λa=>O .b)
def DY (P:gT)(n:kg)(o:aX):Q i5:=match n with
 |.d n=>DW P n o
 |.i=>vF .i o
 |.a=>vF .a o
 |.s=>vF .s o
 |.b=>DX o
noncomputable def yA (n:kg):Bool:=n.casesOn (λa=>aN) aN aN aN af
def hD (P:gT)(o:x)(n:kg)(H:Z):Q i5:=o.D ab (r:= λa=>H[a]?.bind (DY P n)) (g:= λa=>(match yA n with|true=>(P.e a).map λb=>.b|false=>ab))
def yB (l:b2)(a:E)(K:x->Prop):Prop:=match a with
 |k::r=>cR k λk=>(match r with|[]=>K ((bH l k).getD .C)|d::r=>rE r (K ((bH l k).getD d)))
 |[]=>c8
def DZ (a:E)(o:aX)(K:x->Prop):Prop:=o.D c8 (i:= λl=>yB l a K) (h:= λl=>(match a with|k::r=>ew r λd=>a7 (yy k) λh=>dE (!l.contains h) (K d)|[]=>c8))
def jq (P:gT)(C:aQ)(c:i5)(o:x)(b:E)(H:Z)(Q:bg):Prop:=match c with
 |.d f=>C f (o::b) H Q
 |.i=>jp o λa=>f5 H a λl=>ew b λv=>fa (L l+1) (Q .C (H.set a (.y (l++[v]))))
 |.a=>jp o λa=>f5 H a λl=>ew b λv=>a7 (nT H v) λm=>fa (L l+L m) (Q .C (H.set a (.y (l++m))))
 |.s=>jp o λa=>f5 H a λl=>rE b (a7 l.getLast? λv=>Q v (H.set a (.y l.dropLast)))
 |.b=>o.D c8 (r:= λa=>a7 H[a]? λd=>DZ b d λv=>Q v H) (g:= λa=>a7 (P.e a) λl=>yB l b λv=>Q v H)
def mq (l:E):Q bk:=l.rec (O []) λv a f=>v.D ab (i:= λi=>f.map (i::·))
def vG (v:x):Q (m×m):=v.D ab (t:= λl=>(match mq l with|some l=>(match l with|[i,j]=>O (i,j)|_=>ab)|none=>ab))
def lP (l:E):Q aO:=l.rec (O []) λv a i=>(vG v).bind λd=>i.map (d::·)
def rJ (l:aO):Bool:=l.rec af λp r f=>(match r with|[]=>af|q::_=>an (p.1<q.1))&&f
noncomputable def kj (l:bk):bk:=l.mergeSort λa b=>an (a<=b)
def i6 (o:aX)(K:m->Prop):Prop:=o.D c8 (l:= λl=>K (L l)) (i:= λl=>K (L l))
def M6 (l:E)(H:Z)(Q:bg):Prop:=dE (kC (L l) 64) (match mq l with
 |some a=>mk H (.y ((kj a).map .e)) Q
 |none=>a7 (lP l) λa=>dE (rJ a) (mk H (.y l) Q))
def oZ (H:Z)(o:aX)(Q:bg):Prop:=o.D c8 (l:= λl=>M6 l H Q) (i:= λl=>dE (kC (L l) 64) (mk H (.y ((kj (l.map (·.1))).map .e)) Q))
def yC (n:oV)(b:E)(H:Z)(Q:bg):Prop:=ew b λx=>match n with
 |.W=>x.D c8 (t:= λl=>Q (.e (L l)) H) (r:= λa=>a7 H[a]? λo=>i6 o λi=>Q (.e i) H)
 |.a=>a7 (nT H x) λl=>Q (.r l) H
 |.y=>x.D c8 (r:= λa=>a7 H[a]? λo=>yt o λl=>mk H (.y l) Q) (t:= λl=>mk H (.y l) Q)
 |.f=>cR x λi=>dE (rH i) (Q (.f (nC (sC i))) H)
 |.b=>jp x λa=>a7 H[a]? λo=>oZ H o Q
def p6 (v:x):Q Bool:=v.D (O aN) (s:= λa=>O af) (r:= λa=>ab) (g:= λa=>ab)
def D0 (v:x):Q Bool:=v.D (O aN) (t:= λa=>O af) (r:= λa=>ab) (g:= λa=>ab)
structure f6 where
 a:E
 l:Q j
def jr (t:f6)(H:Z)(K:Prop):Prop:=match t.l with
 |none=>K
 |some a=>H[a]?=O (.y t.a)/\K
def rK (a:j)(o:aX)(K:f6->Prop):Prop:=o.D c8 (l:= λl=>K ⟨l,O a⟩)
def kk (H:Z)(v:x)(K:f6->Prop):Prop:=v.D c8 (t:= λl=>K ⟨l,ab⟩) (r:= λa=>a7 H[a]? λo=>rK a o K)
noncomputable def o0 (i:m):Bool:=e1 i.natAbs (10^12)
noncomputable def fT (a:m)(n:j):E:=n.rec (motive:= λb=>m->E) (λb=>[]) (λb f a=>.e a::f (a+1)) a
def js (c:E)(K:E->Prop):Prop:=match c with
 |x::r=>cR x λa=>(match r with
  |[]=>dE (o0 a) (K (fT 0 a.toNat))
  |y::r=>rE r (cR y λb=>dE (o0 a) (dE (o0 b) (K (fT a (b-a).toNat)))))
 |[]=>c8
def M7 (a:f6)(H:Z)(Q:bI):Prop:=jr a H (Q H)
def M8 (c:x->Z->(be->bI)->Prop)(d:f6)(a:j)(v:x)(_:E)(b:Z->bI->Prop)(H:Z)(Q:bI):Prop:=jr d H (c v H λy H=>match y with
 |none=>b H Q
 |some y=>f5 H a λl=>fa (L l+1) (b (H.set a (.y (l++[y]))) Q))
def hn (b:x->Z->(be->bI)->Prop)(a:f6)(c:j)(l:E):Z->bI->Prop:=
 sD (motive:= λd=>Z->bI->Prop) (M7 a) (M8 b a c) l
def M9 (a:f6)(L:aS)(H:Z)(Q:bZ):Prop:=jr a H (Q .next L H)
def M' (a:f4)(b:f6)(v:x)(_:E)(c:aS->Z->bZ->Prop)(L:aS)(H:Z)(Q:bZ):Prop:=jr b H (a v L H λf L H=>match f with
 |.next=>c L H Q
 |.c d=>Q (.c d) L H)
def ds (b:f4)(a:f6)(l:E):aS->Z->bZ->Prop:=
 sD (motive:= λc=>aS->Z->bZ->Prop) (M9 a) (M' b a) l
def Na (a:aS->Z->fp->Prop)(c:aS->Z->bZ->Prop)(_:j)(d:aS->Z->bZ->Prop)(L:aS)(H:Z)(Q:bZ):Prop:=a L H λb H=>match b with
 |false=>Q .next L H
 |true=>c L H λf L H=>match f with
  |.next=>d L H Q
  |.c x=>Q (.c x) L H
def nU (b:aS->Z->fp->Prop)(c:aS->Z->bZ->Prop)(n:j):aS->Z->bZ->Prop:=
 sE (motive:= λa=>aS->Z->bZ->Prop) (λa a a=>c8) (Na b c) n
def p7 (L:aS)(a:cd):aS:=a.map λi=>im L i
def rL (d:mV)(c y:x)(H:Z)(Q:bg):Prop:=match d with
 |.Add=>c.D c8 (i:= λi=>cR y λj=>Q (.e (i+j)) H) (r:= λa=>f5 H a λl=>jp y λb=>f5 H b λm=>fa (L l+L m) (Q (.c a) (H.set a (.y (l++m)))))
 |.Sub=>cR c λi=>cR y λj=>Q (.e (i-j)) H
 |_=>c8
noncomputable def Nb (k:j):aX:=match k with
 |0=>.h []
 |k+1=>match k with
  |0=>.K []
  |_+1=>.c []
def nh {K:Type} [iU K] (l a:n (K×x)):n (K×x):=l.rec (motive:= λb=>n (K×x)->n (K×x)) id (λp b f a=>f (bF a p.1 p.2)) a
def tl (l:E):Q b2:=l.rec (motive:= λa=>be->Q b2) (λo=>match o with|none=>O []|some _=>ab) (λv a f o=>match o with|none=>f (O v)|some k=>k.D ab (i:= λk=>(f ab).map ((k,v)::·))) ab
def tm (l:E):Q (n (j×x)):=l.rec (motive:= λa=>be->Q (n (j×x))) (λo=>match o with|none=>O []|some _=>ab) (λv a f o=>match o with|none=>f (O v)|some k=>k.D ab (s:= λk=>match g8 (e2 k)with|true=>(f ab).map ((e2 k,v)::·)|false=>ab)) ab
noncomputable def o1 (t:dn):Nat:=match t with
 |.s _=>1
 |.r l=>L l
 |_=>0
structure ho where
 a:av->aS->Z->bg->Prop
 T:av->aS->Z->fp->Prop
 c:dn->x->aS->Z->(aS->bI)->Prop
noncomputable def ho.b:ho:=⟨λa a a a=>c8,λa a a a=>c8,λa a a a a=>c8⟩
def Nc (_:aS)(H:Z)(Q:E->bI):Prop:=Q [] H
def Nd (W:ho)(e:av)(_:n av)(a:aS->Z->(E->bI)->Prop)(L:aS)(H:Z)(Q:E->bI):Prop:=W.a e L H λv H=>a L H λb H=>Q (v::b) H
def lQ (W:ho)(l:n av):aS->Z->(E->bI)->Prop:=sD (motive:= λa=>aS->Z->(E->bI)->Prop) Nc (Nd W) l
def Nf (W:ho)(c:oB)(e:av)(r:n av)(a:aS->Z->bg->Prop)(L:aS)(H:Z)(Q:bg):Prop:=W.a e L H λv H=>match r with
 |[]=>Q v H
 |_::_=>a7 (li H v) λb=>match c with
  |.And=>(match b with|false=>Q v H|true=>a L H Q)
  |.Or=>(match b with|true=>Q v H|false=>a L H Q)
def yD (W:ho)(b:oB)(l:n av):aS->Z->bg->Prop:=sD (motive:= λa=>aS->Z->bg->Prop) (λa a a=>c8) (Nf W b) l
def Ng (a:oB)(_:aS)(H:Z)(Q:fp):Prop:=match a with|.And=>Q af H|.Or=>Q aN H
def Nh (W:ho)(c:oB)(e:av)(_:n av)(a:aS->Z->fp->Prop)(L:aS)(H:Z)(Q:fp):Prop:=W.T e L H λb H=>match c with
 |.And=>(match b with|false=>Q aN H|true=>a L H Q)
 |.Or=>(match b with|true=>Q af H|false=>a L H Q)
def tn (W:ho)(a:oB)(l:n av):aS->Z->fp->Prop:=sD (motive:= λb=>aS->Z->fp->Prop) (Ng a) (Nh W a) l
def Ni (a:E)(L:aS)(H:Z)(Q:aS->bI):Prop:=rE a (Q L H)
def Nj (W:ho)(t:dn)(_:n dn)(b:E->aS->Z->(aS->bI)->Prop)(a:E)(L:aS)(H:Z)(Q:aS->bI):Prop:=match a with
 |[]=>c8
 |v::a=>W.c t v L H λL H=>b a L H Q
def D1 (W:ho)(l:n dn):E->aS->Z->(aS->bI)->Prop:=sD (motive:= λa=>E->aS->Z->(aS->bI)->Prop) Ni (Nj W) l
def yE (W:ho)(i:nd)(L:aS)(H:Z)(Q:f6->bI):Prop:=match i with
 |.a e=>W.a e L H λv H=>kk H v λt=>Q t H
 |.e5 a=>lQ W a L H λb H=>js b λl=>Q ⟨l,ab⟩ H
def ni (W:ho)(c:av)(d:dn)(e:n av)(L:aS)(v:x)(H:Z)(Q:be->bI):Prop:=
 W.c d v L H λa H=>tn W .And e a H λb H=>match b with
   |true=>W.a c a H λy H=>Q (O y) H
   |false=>Q ab H
def vH (P:gT)(C:aQ)(W:ho)(r:av)(d:aS)(H:Z)(Q:bg):Prop:=match r with
 |.d v=>Q v.u H
 |.s i=>a7 (im d i) λv=>Q v H
 |.u i=>Q (.e i) H
 |.aa a=>Q (.h a) H
 |.I l=>Q (.r (l.map .e)) H
 |.r l=>lQ W l d H λg H=>Q (.r g) H
 |.y l=>lQ W l d H λg H=>mk H (.y g) Q
 |.q h a b=>W.a a d H λx H=>W.a b d H λy H=>ng h x y H Q
 |.E a=>W.a a d H λx H=>cR x λi=>Q (.e (-i)) H
 |.z a=>W.a a d H λx H=>a7 (li H x) λb=>Q (.d (!b)) H
 |.J h l=>yD W h l d H Q
 |.p h a b=>W.a a d H λx H=>W.a b d H λy H=>mo P h x y H λr=>Q (.d r) H
 |.ep e f a b c=>W.a a d H λx H=>W.a b d H λy H=>mo P e x y H λr=>(match r with
  |false=>Q (.d aN) H
  |true=>W.a c d H λz H=>mo P f y z H λr=>Q (.d r) H)
 |.C t a b=>W.T t d H λr H=>(match r with|true=>W.a a d H Q|false=>W.a b d H Q)
 |.x e n=>W.a e d H λo H=>gH P o n H λv=>Q v H
 |.bz e i=>W.a e d H λo H=>W.a i d H λx H=>ed P o x H λv=>Q v H
 |.B e n=>W.a e d H λo H=>eP o n H λv=>Q v H
 |.N e m=>W.a e d H λo H=>W.a m d H λy H=>yv P o y H Q
 |.lc e p=>W.a e d H λo H=>W.a p d H λx H=>yw o x H Q
 |.M e p m=>W.a e d H λo H=>W.a p d H λx H=>W.a m d H λy H=>vD o x y H Q
 |.w f j=>lQ W j d H λg H=>C f g H Q
 |.D o n j=>W.a o d H λx H=>a7 (hD P x n H) λc=>lQ W j d H λg H=>jq P C c x g H Q
 |.A n j=>lQ W j d H λg H=>yC n g H Q
 |.isStr e=>W.a e d H λx H=>a7 (p6 x) λb=>Q (.d b) H
 |.L e=>W.a e d H λx H=>a7 (D0 x) λb=>Q (.d b) H
 |.G k=>mk H (Nb k) Q
 |.h l=>lQ W l d H λf H=>a7 (tl f) λk=>mk H (.h (nh k [])) Q
 |.K l=>lQ W l d H λf H=>a7 (tm f) λk=>mk H (.K (nh k [])) Q
 |.H s q u w z=>yE W w d H λt H=>
  hn (ni W s q z (iW (o1 q) ab++p7 d u)) t (L H) t.a (H++[.y []]) λA=>Q (.c (L H)) A
def nV (P:gT)(C:aQ)(W:ho)(r:av)(L:aS)(H:Z)(Q:fp):Prop:=vH P C W r L H λv H=>a7 (li H v) λb=>Q b H
def tp (P:gT)(C:aQ)(W:ho)(r:av)(L:aS)(H:Z)(Q:fp):Prop:=match r with
 |.z e=>W.T e L H λb H=>Q (!b) H
 |.J d l=>tn W d l L H Q
 |.C t a b=>W.T t L H λr H=>(match r with|true=>W.T a L H Q|false=>W.T b L H Q)
 |.p d a b=>W.a a L H λx H=>W.a b L H λy H=>mo P d x y H λr=>Q r H
 |.ep f g a b c=>W.a a L H λx H=>W.a b L H λy H=>mo P f x y H λr=>(match r with
  |false=>Q aN H
  |true=>W.a c L H λz H=>mo P g y z H λr=>Q r H)
 |.s i=>nV P C W (.s i) L H Q
 |.x e n=>nV P C W (.x e n) L H Q
 |.bz e i=>nV P C W (.bz e i) L H Q
 |.B e i=>nV P C W (.B e i) L H Q
 |.w f c=>nV P C W (.w f c) L H Q
 |.isStr e=>nV P C W (.isStr e) L H Q
 |.L e=>nV P C W (.L e) L H Q
 |_=>c8
def Nk (P:gT)(W:ho)(t:dn)(v:x)(a:aS)(H:Z)(Q:aS->bI):Prop:=match t with
 |.s i=>Q (kh a i v) H
 |.x e n=>W.a e a H λo H=>vE P o n v H λH=>Q a H
 |.bz e i=>W.a e a H λo H=>W.a i a H λb H=>mp o b v H λH=>Q a H
 |.B e n=>W.a e a H λo H=>rI o n v H λH=>Q a H
 |.r l=>tf v λb=>dE (f1 (L l) (L b)) (D1 W l b a H Q)
noncomputable def ho.c4 (P:gT)(C:aQ)(W:ho):ho:=⟨vH P C W,tp P C W,Nk P W⟩
def ei (P:gT)(C:aQ)(n:j):ho:=sE (motive:= λa=>ho) .b (λa W=>.c4 P C W) n
abbrev nW:=H->aS->Z->bZ->Prop
def Nl (L:aS)(H:Z)(Q:bZ):Prop:=Q .next L H
def Nm (S:nW)(s:H)(_:n H)(b:aS->Z->bZ->Prop)(L:aS)(a:Z)(Q:bZ):Prop:=S s L a λf L a=>match f with
 |.next=>b L a Q
 |.c v=>Q (.c v) L a
def a' (S:nW)(l:n H):aS->Z->bZ->Prop:=sD (motive:= λa=>aS->Z->bZ->Prop) Nl (Nm S) l
def D2 (W:ho)(S:nW):nW:= λr L H Q=>match r with
 |.f e=>W.a e L H λa H=>Q .next L H
 |.d t e=>W.a e L H λv H=>W.c t v L H λL H=>Q .next L H
 |.m i c e=>a7 (im L i) λx=>W.a e L H λy H=>rL c x y H λz H=>Q .next (kh L i z) H
 |.p o n c e=>W.a o L H λa H=>eP a n H λx=>W.a e L H λy H=>rL c x y H λz H=>rI a n z H λH=>Q .next L H
 |.h t a b=>W.T t L H λr H=>(match r with|true=>a' S a L H Q|false=>a' S b L H Q)
 |.k t b a=>yE W b L H λi H=>ds (λv L H Q=>W.c t v L H λL H=>a' S a L H Q) i i.a L H Q
 |.q t a=>∃n,nU (λL H Q=>W.T t L H Q) (λL H Q=>a' S a L H Q) n L H Q
 |.c e=>W.a e L H λv H=>Q (.c v) L H
 |.r=>Q (.c .C) L H
 |.s=>Q .next L H
 |.l=>c8
def p8 (W:ho)(n:j):nW:=sE (motive:= λa=>nW) (λa a a a=>c8) (λa S=>D2 W S) n
noncomputable def Nn:Nat:=13
noncomputable def No:Nat:=9
def o2 (P:gT)(C:aQ):nW:=p8 (ei P C Nn) No
def D3 (P:gT)(C:aQ)(c:j)(d:n H)(b:E)(a:Z)(Q:bg):Prop:=
 a' (o2 P C) d (b.map O++iW (c-L b) ab) a λf e a=>match f with
  |.next=>Q .C a
  |.c v=>Q v a
theorem vI {t:hg PySem.Fin}{d:n Frame}{e:End}(h:Runs lj rM cE t d ap e hp):ap.heap.objs.size<=hp.heap.objs.size:=by
 induction h with
 |alloc _ c=>rw[oC]at c;exact ck (.le .a .e) (.le (.b .a .r) .e) c
 |update _ _ c=>rw[ah7]at c;exact c
 |done|raise|yield=>exact br _
 |call _ _ a b=>exact aU a b
 |resumeFresh _ _ _ _ a b=>exact aU a b
 |resumeSuspended _ _ _ _ a b=>exact aU a b
 |segRet _ _ a b=>exact aU a b
 |segGen _ _ a b=>exact aU a b
 |segSuspGen _ _ _ _ a b=>exact aU a b
 |_=>assumption
theorem Np {r:Resume}{c:GenResult}(h:Wakes lj rM cE f r ap c hp):ap.heap.objs.size<=hp.heap.objs.size:=by
 delta Wakes at h;split at h
 ·exact h.elim
 ·split at h
  ·refine gG h ?_;clear h;rintro e d b a a rfl;have:=vI b;exact this
  ·refine bd h ?_;clear h;rintro a rfl;exact br _
  ·refine bd h ?_;clear h;rintro a rfl;exact br _
 ·refine gG h ?_;clear h;rintro e d b a a rfl;have:=vI b;exact this
 ·refine bd h ?_;clear h;rintro a rfl;exact br _
 ·refine bd h ?_;clear h;rintro a rfl;exact br _
theorem Nq {Q:ar->b0->b1->Prop}{E:ae->b0->b1->Prop}(h:Sem.wp lj rM p9 Q E cE ap):
 ∀n,n<=ap.heap.objs.size->Sem.wp lj rM p9 (λa b d=>Q a b d/\n<=d.heap.objs.size) (λa b d=>E a b d/\n<=d.heap.objs.size) cE ap:=by
 intro n e;induction p9 generalizing cE ap with
 |pure x=>exact⟨h,e⟩
 |raise v=>exact⟨h,e⟩
 |unsupported|finish|yield|fork|await|register=>exact h
 |rule _ k b|«at» _ k b|loadIfAlive _ k b|point _ k b|fresh k b|ask k b|os _ _ k b|handled _ k b|newGen _ k b|stack k b|thread k b=>exact b _ h e
 |alloc o k b=>exact b _ h (by rw[oC];exact j8 e)
 |load a _ k b|genState a k b=>exact aL h λo c h=>⟨o,c,b _ h e⟩
 |update a _ f k b=>exact⟨h.1,b _ h.2 (by rw[ah7];exact e)⟩
 |choose _ _ k b=>exact⟨h.1,b _ h.2 e⟩
 |call c c g l k b=>exact gq h λr d f h=>⟨r,d,f,b _ h (aU e (vI f))⟩
 |resume g r l k b=>exact gq h λf d c h=>⟨f,d,c,b _ h (aU e (Np c))⟩
theorem nX {Q:ar->b1->Prop}
 (h:bL lj a8 p9 (λa b=>ap.heap.objs.size<=b.heap.objs.size->Q a b) dN ap):bL lj a8 p9 Q dN ap:= λb p c=>
 Sem.wp_mono lj b p9 (λa a a q=>q.1 q.2) (λa a a q=>q.1) p ap (Nq (h b p c) _ (br _))
theorem ai0 {c:Code}{R:Result->b1->Prop}
 (h:codeAny lj a8 c (λr a=>ap.heap.objs.size<=a.heap.objs.size->R r a) ap):codeAny lj a8 c R ap:= λd p e f=>by
 exact gq (h d p e f) λr a b q=>⟨r,a,b,q (vI b)⟩
open Internal.a1 renaming casesOn->pO
def vJ:de<=sizeLine:=⋯
inductive dP (c:cQ)(g:bl)(Q:bg)(v:ae)(a:b1):Prop
 |mk (d:x)(e:Z)(b:n (ac×ac))(f:a1 ⟨a,b⟩ v d)(R:bi c e ⟨a,b⟩)(S:cA d3 g ⟨a,b⟩)(q:Q d e)
inductive tq (c:cQ)(g:bl)(Q:bI)(u:mX)(a:b1):Prop
 |mk (b:Z)(d:n (ac×ac))(R:bi c b ⟨a,d⟩)(S:cA d3 g ⟨a,d⟩)(q:Q b)
inductive mr (c:cQ)(g:bl)(Q:fp)(b:bm)(a:b1):Prop
 |mk (d:Z)(e:n (ac×ac))(R:bi c d ⟨a,e⟩)(S:cA d3 g ⟨a,e⟩)(q:Q b d)
abbrev cb:ae->b1->Prop:= λa a=>c8
def hS (h:fS)(o:g3):(∀b x,h.get? b=O x->(h.push o).get? b=O x)/\h.objs.size<=(h.push o).objs.size:=
 ⟨λa a e=>kD o e,by rw[oC];exact fJ _⟩
def kJ {a:dC ar}(e:L a.toList=f):a.size=f:=by simpa using e
def o3 (h:f<=de):(f:m)<2^63:=uQ (ov.mpr h) ⋯
def jt (h:f<=de):f<=sizeLine:=aU h vJ
section
def bi.same (R:bi t c v)(a:ap.heap=v.c.heap)(d:ap.gens=v.c.gens:=by rfl)(f:ap.os=v.c.os:=by rfl):bi t c ⟨ap,v.a⟩/\∀X,cA X v ⟨ap,v.a⟩:=
 R.u (λb o e=>by rw[a];exact e) (by rw[a];exact br _) d f
variable{w:bg}{fF:fp}{dp:dC ae}{ts:n ae->Prop}{jQ:mV}
theorem e6 (R:bi t c v)(a:a1 v bE p)(q:w p c)(b:ap.heap=v.c.heap:=by rfl)(d:ap.gens=v.c.gens:=by rfl)(e:ap.os=v.c.os:=by rfl):dP t v w bE ap:=
 have z:=R.same b d e
 ⟨p,c,v.a,a.u (z.2 d3).togh,z.1,z.2 _,q⟩
def tr (R:bi t c v)(q:fF bs c)(a:ap.heap=v.c.heap:=by rfl)(b:ap.gens=v.c.gens:=by rfl)(d:ap.os=v.c.os:=by rfl):mr t v fF bs ap:=
 have z:=R.same a b d
 ⟨c,v.a,z.1,z.2 _,q⟩
theorem p' (R:bi t c v)(d:v.c.heap.objs.size<=ak)(e:∀b x,v.c.heap.get? b=O x->ap.heap.get? b=O x)
 (g:v.c.heap.objs.size<=ap.heap.objs.size)(a:ap.heap.get? ak=O {cls:=.type "list",data:=.seq dp f})(h:bp v dp.toList k)(i:L k<=de)(q:mk c (.y k) w)
 (l:ap.gens=v.c.gens:=by rfl)(m:ap.os=v.c.os:=by rfl):dP t v w (.ref ak) ap:=by
 exact bd (R.K (o:=.y k) aa d e g (gz a) (λX=>⟨dp,f,a,h.u X,i⟩) l m) λn o=>⟨.c (L c),_,_,by rw[<-R.W];exact a1.aP,n,o,q⟩
theorem yF (R:bi t c v)(a:∀b x,v.c.heap.get? b=O x->ap.heap.get? b=O x)
 (d:v.c.heap.objs.size<=ap.heap.objs.size)(e:ap.heap.get? ak=O {cls:=.type "tuple",data:=.seq dp f})(g:bp v dp.toList k)(h:L k<=de)(q:w (.r k) c)
 (i:ap.gens=v.c.gens:=by rfl)(l:ap.os=v.c.os:=by rfl):dP t v w (.ref ak) ap:=
 have z:=R.u a d i l
 ⟨.r k,c,v.a,.r e (g.u (z.2 d3).togh) h,z.1,z.2 _,q⟩
theorem D4 (R:bi t c v)(a:bp v dp.toList k)(b:L k<=de)(q:w (.r k) c):
 dP t v w (.ref v.c.heap.objs.size) {v.c with heap:=v.c.heap.push {cls:=.type "tuple",data:=.seq dp},toks:=f}:=
 yF (f:=0) R (hS _ _).1 (hS _ _).2 (ji _ aa) a b q
theorem yG (R:bi t c v)(a:bp v dp.toList k)(b:L k<=de)(q:mk c (.y k) w):
 dP t v w (.ref v.c.heap.objs.size) {v.c with heap:=v.c.heap.push {cls:=.type "list",data:=.seq dp},toks:=f}:=
 p' (f:=0) R (br _) (hS _ _).1 (hS _ _).2 (ji _ aa) a b q
theorem bi.y (R:bi t c v){i:j}{p:ac×ac}{l:E} (e:c[i]?=O (.y l)) (d:v.a[i]?=O p):∃a n,v.c.heap.get? p.1=O {cls:=.type "list",data:=.seq a n}/\bp v a.toList l/\a.size=L l/\L l<=de:=d0 (R.e _ _ _ d e) λa n f b g=>⟨a,n,f,b,kJ b.e,g⟩
@[elab_as_elim]def a1.y {u:ae}{a:x}{K:m->Prop}{P:ae->Prop}(g:a1 v u a)(b:cR a K)(k:∀i t,K i->P (.int i t)):P u:=by
  induction a using eh<;>first|exact b.elim|exact g.K λt=>k _ t b
@[elab_as_elim]def a1.aT {u:ae}{a:x}{K:aH->Prop}{P:ae->Prop}(g:a1 v u a)(b:te a K)(k:∀i t,K i->P (.str i t)):P u:=by
  induction a using eh<;>first|exact b.elim|exact g.aR λt=>k _ t b
@[elab_as_elim]theorem a1.af {u:ae}{a:x}{K:j->Prop}{P:ae->Prop}(g:a1 v u a)(b:jp a K) (k:∀i p,v.a[i]?=O p->K i->P (.ref p.1)):P u:=by
  induction a using eh<;>first|exact b.elim|exact g.X λp l=>k _ p l b
@[elab_as_elim]theorem a1.rN {u:ae}{g:x}{K:E->Prop}{P:ae->Prop}(m:a1 v u g)(i:tf g K)(k:∀l a b n,v.c.heap.get? a=O {cls:=.type "tuple",data:=.seq b n}->bp v b.toList l->b.size=L l->L l<=de->K l->P (.ref a)):P u:=by
  induction g using eh<;>first|exact i.elim|exact m.ab λa b n o j p=>k _ a b n o j (kJ j.e) p i
@[elab_as_elim]def a1.aU {u:ae}{a:x}{K:Prop}{P:ae->Prop}(g:a1 v u a)(b:oX a K)(k:K->P .none):P u:=by
  induction g using pO<;>first|exact b.elim|exact k b
def a1.al {a:ae}{b:x}(r:a1 v a b):(a==Value.none)=jP b:=by induction r using pO<;>rfl
def a1.aY {a:ae}{g:x}(i:a1 v a g):g.D fZ (n:=a=.none) (b:= λb=>a=.bool b):=by induction i using pO<;>first|trivial|rfl
@[elab_as_elim]def bp.y (r:bp v bv (p::k))(e:∀c d,a1 v c p->bp v d k->ts (c::d)):ts bv:=by cases r with|a f b=>exact e _ _ f b
def bp.C (r:bp v bv []):bv=[]:=by cases r;rfl
def d4 (h:a7 fL oY)(k:∀a,fL=O a->oY a->aV):aV:=by
 induction fL using gA<;>first|exact h.elim|exact k _ aa h
def gj (h:dE bs aV)(k:bs=af->aV->dr):dr:=k (nR h).1 (nR h).2
def ms (h:fa f aV)(k:f<=de->aV->dr):dr:=k (DR h).1 (DR h).2
theorem bi.af (R:bi t c v){i:j}{p:ac×ac}{K:E->Prop}{P:Prop} (g:v.a[i]?=O p) (h:f5 c i K)(k:∀l f n,v.c.heap.get? p.1=O {cls:=.type "list",data:=.seq f n}->bp v f.toList l->f.size=L l->L l<=de->K l->P):P:=
 d4 h λo e h=>by
  induction o using hf<;>first|exact h.elim|exact gG (R.y e g) λf n a b t d=>k _ f n a b t d h
def log2_lt (n k:j)(a:0<k)(h:n<2^k):n.log2<k:=by
 by_cases e:n=0
 ·subst e;simpa using a
 ·exact(Nat.log2_lt e).mpr h
theorem Nr (a:o.natAbs<=10^18):ah8 d o=false:=by
 have b:o.natAbs.log2<70:=log2_lt _ _ ⋯ (g4 a ⋯);delta ah8;simp only[Bool.and_eq_false_iff,decide_eq_false_iff_not]
 left
 split<;>lia
theorem Ns
 (a:hp.heap.get? ak=O {cls:=.type "list",data:=.seq #[bE] f}) (b:0<=d)(c:d.toNat<=de)
 (h:dN (.ref hp.heap.objs.size) {hp with heap:=hp.heap.push {cls:=.type "list",data:=.seq (List.foldl (λe g=>e++g) #[] (iW d.toNat #[bE]))}}):
 bL t.a a8 (binaryOp .Mult (.ref ak) (.int d jo)) dN cb hp:=
 have e:de=1000000:=aa
 wpAny_binaryOp_repeat_ref (T:="list") (U:="int") ⋯ ⟨_,a,aa⟩ (λap=>typeIs_int ap d jo) noFill_list_mul PySem.F.fills_int_mul ah9 repeat_list PySem.F.slot_int_index.lookup
  (sF ah9 (typeIs_int hp d jo) PySem.F.entry_int_rmul (PySem.F.args_int_rmul_2 _ _) (int___rmul___int_list d jo ak #[bE] f)
   ⟨a,aa,⟨_,a,aa⟩,sF PySem.F.slot_list_mul ⟨_,a,aa⟩ PySem.F.entry_list_mul (PySem.F.args_list_mul_2 _ _)
     (AutoListH.list___mul___list_int_3 ak #[bE] f d jo (by simp[Builtin.List.listFitsIndex];exact k0 (hO (.a (.g (.y 9223372036854775808)) .a) (.a .K .a) b) (gE [_,_] [_] (.Lt .a (.y 9223372036854775808)) (.le .a .e) (.l .e (.y 1000000)) (.Eq (.d .a) .a) [1,1,1,-1] c e (lB (b)))) (by rw[show#[bE].size=1 from aa];lia) (by simp[uV,pP];exact gE [_,_] [_] (.a .a (.y 16777216)) (.le .a .e) (.l .e (.y 1000000)) (.Eq (.d .a) .a) [1,1,1,-1] c e (lB (b))))
     ⟨a,h⟩⟩)
def Nt (v:ae)(n:j):∀a:dC ae,(List.foldl (λb c=>b++c) a (iW n #[v])).toList=a.toList++iW n v:=by
 induction n with
 |zero=>intro a;simp
 |succ n b=>intro a;rw[aia,List.foldl_cons,b];simp[aia]
theorem bp.replicate (r:a1 v bE p):∀n,bp v (iW n bE) (iW n p)
 |0=>.l
 |n+1=>.a r (bp.replicate r n)
set_option tactic.hygienic true in
theorem Nu (R:bi t c v)(s:a1 v bE p)(u:a1 v h' U)(h:rG p U c w):bL t.a a8 (binaryOp .Add bE h') (dP t v w) cb v.c:=by
 induction p using eh<;>first|exact h.elim|skip
 case e i=>exact s.K λD=>u.y h λj G q=>add_int (e6 R (.e _ _) q)
 case f i=>exact s.aR λD=>u.aT h λj G h=>ms h λk q=>add_str (λD Q=>e6 R (.f _ _) q) (aU k vJ)
 case r l=>
  refine s.ab λa n y d o H=>u.rN h λm b r z g A E I h=>ms h λk q=>?_;have F:=kJ o.e;by_cases B:n.isEmpty=af
  ·have:l=[]:=J4 (by rw[<-F];simpa [Array.isEmpty]using B);subst this;exact concat_meets ⟨_,d,aa⟩ ⟨_,g,aa⟩ J5 J6 J7 J8 (J9 _ _) (tuple_addW0 a b n r y z ab ab #[] #[] B) ⟨d,g,e6 R (.r g A I) q⟩
  ·by_cases C:r.isEmpty=af
   ·have:m=[]:=J4 (by rw[<-E];simpa [Array.isEmpty]using C);subst this;rw[ca]at q;exact concat_meets ⟨_,d,aa⟩ ⟨_,g,aa⟩ J5 J6 J7 J8 (J9 _ _) (tuple_addW1 a b n r y z ab ab #[] #[] B C) ⟨d,g,e6 R (.r d o H) q⟩
   ·exact concat_meets ⟨_,d,aa⟩ ⟨_,g,aa⟩ J5 J6 J7 J8 (J9 _ _)
     (tuple_addW2 a b n r y z ab ab #[] #[] B C (by rw[F,E];exact aU k vJ)) ⟨d,g,D4 R (by simpa using o.i A) (by simpa using k) q⟩
 case c a=>refine s.X λS J=>R.af J h λl n y d o K L h=>u.af h λb T M h=>R.af M h λm r z g A N L h=>ms h λk q=>P.add_list d g (yG R (by simpa using o.i A) (by simpa using k) q) ?_;rw[K,N];exact aU k vJ
def D5 {p:Prop} [xT p] (h:(!an p)=af):¬p:=by simpa using h
theorem Nv (R:bi t c v)(b:a1 v bE p)(d:a1 v h' U)(h:ng jQ p U c w):bL t.a a8 (binaryOp jQ bE h') (dP t v w) cb v.c:=by
 cases jQ<;>first|exact h.elim|skip
 case Add=>exact Nu R b d h
 case Sub=>exact b.y h λi g h=>d.y h λj k q=>sub_int (e6 R (.e _ _) q)
 case Mod=>exact b.y h λi g h=>d.y h λj k h=>gj h λf q=>mod_int' (D5 f) (e6 R (.e _ _) q)
 case BitAnd=>exact b.y h λi g h=>d.y h λj k q=>and_int (e6 R (.e _ _) q)
 case BitOr=>exact b.y h λi g h=>d.y h λj k q=>or_int (e6 R (.e _ _) q)
 case FloorDiv=>exact b.y h λi g h=>d.y h λj k h=>gj h λf h=>gj h λm h=>gj h λs q=>floordiv_int (D5 f) (e6 R (.e _ _) q) (.inl (Nr (ea s)))
 case Mult=>
  have h:vC p U c w:=h;induction p using eh<;>first|exact h.elim|skip
  case e i=>exact b.K λg=>d.y h λj k h=>gj h λf q=>mul_int (e6 R (.e _ _) q) (IntMulOk.of_left (intBits_le_64 (hO (.Lt (.g (.y (2^64))) .a) (.a .K (.b .a (.y (10^18)))) (yj (ea f)).1) (uQ (yj (ea f)).2 ⋯)))
  case c D=>
  refine b.X λE u=>R.af u h λl n F y A m m h=>?_;obtain⟨z,rfl,h⟩:=nf h;refine d.y h λj g h=>gj h λf h=>ms h λo q=>?_;obtain⟨h',rfl,B⟩:∃h',n=#[h']/\a1 v h' z:=by obtain⟨l⟩:=n;cases A with|a r C=>cases C;exact⟨_,aa,r⟩
  exact Ns y (dT f) o (yG R (by rw[Nt];simpa using bp.replicate B _) (by simpa using o) q)
end
def yH (K:Frag)(C:ac)(i:j):Bool:=
 an (i<L eF)&&k1 K (.ref C) (bG i)==O ab&&(clsIn K C).any (·.hasDict)&&k1 K (.ref C) "__getattribute__"==O (O (.builtin "object.__getattribute__"))&&
 k1 K (.ref C) "__setattr__"==O (O (.builtin "object.__setattr__"))&&plainOver K C&&!copiedNames.contains (bG i)
def vK (K:Frag)(C:ac)(i:j)(f:ac):Bool:=
 an (i<L eF)&&k1 K (.ref C) (bG i)==O (O (.ref f))&&isFn K (.ref f)&&plainGet K C (bG i)&&keepIn K (.ref f)
structure d9 (c:cQ):Prop where
 e:∀a l,c.P.e a=O l->a≠pQ/\∃b,c.b.heap.DictOf (lE c.d c.c) a b/\dM ⟨c.b,[]⟩ b l/\L l<=de
 y:∀a l,c.P.y a=O l->∃g n,c.b.heap.get? a=O {cls:=.type "list",data:=.seq g n}/\bp ⟨c.b,[]⟩ g.toList l/\L l<=de
 d:∃o,c.b.heap.get? pQ=O o
 h:∃K:Frag,K.In c.b.heap/\(∀C n,c.P.x C n=af->yH K C n=af)/\(∀C n f,c.P.D C n=O f->vK K C n f=af)/\∀f,c.P.d f=af->keepIn K (.ref f)=af
section
def bi.an (R:bi t c v):gh ⟨t.b,[]⟩ v:=⟨λa o e b b=>R.a a o e,λi p e=>by simp at e⟩
theorem d9.dictAt (T:d9 t)(R:bi t c v){a:ac}{l:b2}(e:t.P.e a=O l):(a==pQ)=aN/\∃b,v.c.heap.DictOf (lE t.d t.c) a b/\dM v b l/\L l<=de:=by obtain⟨d,b,f,g,h⟩:=T.e _ _ e;refine nJ f λo i n j r=>?_;exact⟨by simpa using d,b,⟨o,i,n,R.a _ _ j,r⟩,g.u R.an,h⟩
theorem d9.f5 (T:d9 t)(R:bi t c v){a:ac}{l:E}(e:t.P.y a=O l):∃b n,v.c.heap.get? a=O {cls:=.type "list",data:=.seq b n}/\bp v b.toList l/\b.size=L l/\L l<=de:=d0 (T.y _ _ e) λb n f d g=>⟨b,n,R.a _ _ f,d.u R.an,kJ d.e,g⟩
variable{hT:x->Q lF}{qa:n lF}{o5:lF}{gI:bm->Prop}
theorem Nw (e:h9 hT (p::k)=O qa):∃d a,hT p=O d/\h9 hT k=O a/\qa=d::a:=by
 have e:(hT p).bind (λd=>(h9 hT k).map (d::·))=O qa:=e;cases b:hT p with
 |none=>rw[b]at e;injection e
 |some d=>
  rw[b]at e;have e:(h9 hT k).map (d::·)=O qa:=e;cases c:h9 hT k with
  |none=>rw[c]at e;injection e
  |some a=>rw[c]at e;replace e:=aY e;subst e;exact⟨d,a,aa,aa,aa⟩
def ai1 (h:∀l,p≠.r l)(a:∀i,p≠.c i):i4 c f p=rF p:=by
 induction f using dx with
 |zero=>rfl
 |succ f=>induction p using eh<;>first|rfl|exact b6 aa (h _)|exact b6 aa (a _)
theorem vL (m:∀(i:ae)(c:x)(d:lF),a1 v i c->hT c=O d->(∃g,Reads v.c.heap i d g)/\d.canLay0=af/\d.depth<=f):
 ∀(h:n ae)(b:E)(a:n lF),bp v h b->h9 hT b=O a->(∃g,ReadsAll v.c.heap h a g)/\aib a=af/\xU a<=f:=by
 intro h b a r;induction b generalizing h a with
 |nil=>intro e;rw[r.C];exact aY e▸⟨⟨_,.nil⟩,aa,fK _⟩
 |cons c b o=>
  intro e;refine d0 (Nw e) ?_;rintro d l p s rfl;refine r.y λi F u w=>?_
  ·refine c9 (m _ c d u p) ?_;intro y t z;refine bu y λg q=>?_;refine c9 (o _ l w s) ?_;intro A B C;refine bu A λF D=>?_;exact⟨⟨_,.cons q D⟩,by simp[aib,t,B],by simp[xU];exact(nE (d.depth) (xU l)).elim (λk=>aU (he (uW k)) C) λk=>aU (he (xV k)) z⟩
theorem rO (n:j){h:ae}{i:x}{g:lF}(r:a1 v h i)(a:rF i=O g):(∃b,Reads v.c.heap h g b)/\g.canLay0=af/\g.depth<=n:=by
 induction r using pO with
 |C=>exact aY a▸⟨⟨_,.none⟩,aa,fK _⟩
 |d b=>exact aY a▸⟨⟨_,.bool _⟩,aa,fK _⟩
 |e b=>exact aY a▸⟨⟨_,.int _ _⟩,aa,fK _⟩
 |f b=>
  have a:(if md b then O (PyData.str b)else ab)=O g:=a;by_cases q:md b
  ·rw[cP q]at a;exact aY a▸⟨⟨_,.str _ _⟩,by simpa [J']using q,fK _⟩
  ·rw[ce q]at a;injection a
 |r=>injection a
 |c=>injection a
 |h=>injection a
set_option tactic.hygienic true in
theorem o4 (R:bi t c v):∀(n:j)(s:ae)(m:x)(h:lF),a1 v s m->i4 c n m=O h->(∃u,Reads v.c.heap s h u)/\h.canLay0=af/\h.depth<=n:=by
 intro n;induction n with
 |zero=>intro s m h r g;exact rO 0 r g
 |succ n F=>
  intro s m h r g;induction m using eh with
  |r l=>refine aL (h3.mp g) ?_;rintro w y rfl;refine r.ab λa A k B D G=>?_;refine c9 (vL F A.toList l w D y) ?_;intro H t z;refine bu H λu q=>?_;exact⟨⟨_,.tuple B aa aa q⟩,by simpa [J']using t,by simp[PyData.depth];exact z⟩
  |c i=>
   have g:(c[i]?.bind λo=>o.D ab (l:= λl=>(h9 (i4 c n) l).map B7))=O h:=g;cases E:c[i]?with
   |none=>rw[E]at g;injection g
   |some o=>
    rw[E]at g;induction o using hf<;>first|cases g|skip
    rename_i l
    refine aL (h3.mp g) ?_;rintro w y rfl;refine r.X λp I=>gG (R.y E I) λA k B D G K=>?_;refine c9 (vL F A.toList l w D y) ?_;intro J t z;refine bu J λu q=>?_;exact⟨⟨_,.list B aa aa q⟩,by simpa [J']using t,by simp[PyData.depth];exact z⟩
  |C=>exact rO _ r g
  |d b=>exact rO _ r g
  |e b=>exact rO _ r g
  |f b=>exact rO _ r g
  |h a=>exact rO _ r g
abbrev qb (A:eb):Prop:=A.units+100<cLine
def vM (c:o5.canLay0=af)(z:o5.depth<=f)(a:f<=64):SeqAt.shaped o5=true:=by simp[SeqAt.shaped,c];exact k' (.le .a (.y 64)) (.le .a .e) (.le .e (.y 64)) z a
def qc (T:d9 t)(R:bi t c v){i:j}{p:ac×ac} (e:v.a[i]?=O p):(p.1==pQ)=false:=by refine bu T.d λx a=>?_;simpa using(show p.1≠pQ fromλq=>R.s a (q▸⟨i,p,e,.inl aa⟩))
abbrev yI (H:Z)(K:bm->Prop):bg:= λv a=>∃b,v=.d b/\a=H/\K b
abbrev D6 (H:Z)(K:bm->Prop):bg:= λv a=>∃b,v=.d (!b)/\a=H/\K b
def lR (R:bi t c v)(e:bE=.bool bs)(a:ap.heap=v.c.heap)(q:gI bs)(b:ap.gens=v.c.gens:=by rfl)(d:ap.os=v.c.os:=by rfl):
 dP t v (yI c gI) bE ap:=by
 subst e;exact e6 R (.d bs) ⟨bs,aa,aa,q⟩ a b d
def vN (R:bi t c v)(e:bE=.bool (!bs))(a:ap.heap=v.c.heap)(q:gI bs)(b:ap.gens=v.c.gens:=by rfl)(d:ap.os=v.c.os:=by rfl):
 dP t v (D6 c gI) bE ap:=by
 subst e;exact e6 R (.d _) ⟨bs,aa,aa,q⟩ a b d
theorem dM.b {K:Type} [iU K] {b:n (K×ae)}{c:n (K×x)}(r:dM v b c)(y:K):(ra b y).isSome=(bH c y).isSome:=by
 have:=r.at y;cases e:bH c y with
 |some z=>rw[e]at this;refine aL this λu q d=>?_;rw[q];rfl
 |none=>rw[e]at this;rw[show ra b y=ab from this];rfl
abbrev D7 (c:cQ)(A:eb)(g:bl)(H:Z)(u v:ae)(K:bm->Prop):Prop:=
 bL c.a A (rb .In u v) (dP c g (yI H K)) cb g.c/\bL c.a A (rb .NotIn u v) (dP c g (D6 H K)) cb g.c
theorem D8 (R:bi t c v){i:m}{u:ae}{a:ac}{b:n (m×ae)}{l:b2}{K:bm->Prop}(j:a1 v u (.e i))(d:(a==pQ)=aN)(e:v.c.heap.DictOf (lE t.d t.c) a b)(f:dM v b l)(h:K (bH l i).isSome):
 D7 t a8 v c u (.ref a) K:=by
 exact j.K λg=>⟨wpAny_in_of (oD t.d t.c i g) d e.mapOf (lR R (by rw[f.b]) aa h),wpAny_notIn_of (oD t.d t.c i g) d e.mapOf (vN R (by rw[f.b]) aa h)⟩
def D9 (h:lO c p k gI):∃d a,i4 c 6 p=O d/\h9 (i4 c 6) k=O a/\gI (a.any λe=>pN e d):=d4 h λd b h=>d4 h λa e h=>⟨d,a,b,e,h⟩
set_option tactic.hygienic true in
theorem D' (T:d9 t)(R:bi t c v)(U:qb a8){u J:ae}{m C:x}{K:bm->Prop}(n:a1 v u m)(D:a1 v J C)(h:p4 t.P m C c K):D7 t a8 v c u J K:=by
 have L:a8.units+1+64<cLine:=ck (.lt (.b (.b .a .r) (.y 64)) .e) (.lt (.b .a (.y 100)) .e) U;induction C using eh<;>first|exact h.elim|skip
 case r l=>refine d0 (D9 h) λd b E F h=>?_;refine c9 (o4 R 6 _ m d n E) ?_;intro V t z;refine bu V λW q=>?_;refine D.ab λa G k r H I=>?_;refine c9 (vL (o4 R 6) G.toList l b H F) ?_;intro X s Y;refine bu X λZ w=>?_;have A:a8.units+1+min (xU b) d.depth<cLine:=CY L (aU (rc ..) z);exact⟨SeqAt.in_tuple_reads (.tuple r aa aa w) q s t A (lR R aa aa h),SeqAt.notIn_tuple_reads (.tuple r aa aa w) q s t A (vN R aa aa h)⟩
 case c a=>
  refine D.X λp g=>d4 h λo M h=>?_;induction o using hf<;>first|exact h.elim|skip
  case y l=>refine d0 (D9 h) λd b E F h=>?_;refine c9 (o4 R 6 _ m d n E) ?_;intro CS t z;refine bu CS λW q=>?_;refine gG (R.y M g) λG k r H I N=>?_;refine c9 (vL (o4 R 6) G.toList l b H F) ?_;intro OL s Y;refine bu OL λZ w=>?_;have A:a8.units+1+min (xU b) d.depth<cLine:=CY L (aU (rc ..) z);exact⟨SeqAt.in_list_reads (.list r aa aa w) q s t A (lR R aa aa h),SeqAt.notIn_list_reads (.list r aa aa w) q s t A (vN R aa aa h)⟩
  case h l=>
   refine dU (R.e _ _ _ g M) λajl j B I=>?_;induction m using eh<;>first|exact h.elim|skip
   case e=>exact D8 R n (qc T R g) j B h
   case f=>
    refine gj h λP h=>n.aR λQ=>?_;induction l using cv<;>first|cases P|skip
    have S:v.c.heap.MapOf (strKind t.d t.c) p.1 λN=>none:=by
     cases B;obtain⟨o,b,g,ajm,ajn,j,ajs,ajo,ajt⟩:=j;have:b=#[]:=by obtain⟨b⟩:=b;cases ajo;rfl
     subst this;exact⟨o,#[],g,ajm,ajn,j,λP ajp=>by simp at ajp,λN=>aa⟩
    exact⟨wpAny_in_of (uX t.d t.c _ Q) (qc T R g) S (lR R aa aa h),wpAny_notIn_of (uX t.d t.c _ Q) (qc T R g) S (vN R aa aa h)⟩
 case h a=>refine d4 h λl ajq h=>?_;obtain⟨i,rfl,h⟩:=vB h;obtain rfl:=D.aN;obtain⟨ajr,ajl,j,B,I⟩:=T.dictAt R ajq;exact D8 R n ajr j B h
theorem Nx (T:d9 t)(R:bi t c v)(k:qb a8){l:mW}{u B:ae}{g y:x}{K:bm->Prop}(a:a1 v u g)(f:a1 v B y)(h:mo t.P l g y c K):
 bL t.a a8 (rb l u B) (dP t v (yI c K)) cb v.c:=by
 have C:a8.units+64<cLine:=ck (.lt (.b .a (.y 64)) .e) (.lt (.b .a (.y 100)) .e) k;cases l
 case Eq=>refine d4 h λd m h=>d4 h λe n h=>?_;refine c9 (o4 R 6 _ g d a m) ?_;intro b t z;refine bu b λD q=>?_;refine c9 (o4 R 6 _ y e f n) ?_;intro i o p;refine bu i λE s=>?_;exact eq_dataH q s (vM t z ⋯) (vM o p ⋯) C (lR R aa aa h)
 case NotEq=>refine d4 h λd m h=>d4 h λe n h=>?_;refine c9 (o4 R 6 _ g d a m) ?_;intro b t z;refine bu b λD q=>?_;refine c9 (o4 R 6 _ y e f n) ?_;intro i o p;refine bu i λE s=>?_;exact ne_dataH q s (vM t z ⋯) (vM o p ⋯) C (lR R aa aa h)
 case Lt=>exact a.y h λi w h=>f.y h λj A q=>lt_int (lR R aa aa q)
 case LtE=>exact a.y h λi w h=>f.y h λj A q=>le_int (lR R aa aa q)
 case Gt=>exact a.y h λi w h=>f.y h λj A q=>gt_int (lR R aa aa q)
 case GtE=>exact a.y h λi w h=>f.y h λj A q=>ge_int (lR R aa aa q)
 case Is=>exact f.aU h λh=>is_none_gen (lR R aa aa (a.al▸h))
 case IsNot=>exact f.aU h λh=>isnot_none_gen (lR R aa aa (a.al▸h))
 case In=>exact(D' T R k a f h).1
 case NotIn=>refine hx (D' T R k a f h).2 (λr b z=>?_) λF F e=>e;obtain⟨b,b,b,G,H,I,b,rfl,rfl,q⟩:=z;exact⟨_,_,_,G,H,I,_,aa,aa,q⟩
end
section
def ai2 (r:bp v bv k):(!nS k)=!bv.isEmpty:=by cases r<;>rfl
variable{dp:dC ae}
def Ea (r:bp v dp.toList k):dp.isEmpty=nS k:=by obtain⟨dp⟩:=dp;cases r<;>rfl
def ai3 (r:bp v dp.toList k):(!nS k)=an (dp.size≠0):=by obtain⟨dp⟩:=dp;cases r<;>rfl
set_option tactic.hygienic true in
theorem yJ (R:bi t c v){j:ae}{m:x}{b:bm}{Q:fp}(h:a1 v j m)(g:li c m=O b)(q:Q b c):bL t.a a8 (sG j) (mr t v Q) cb v.c:=by
 induction m using eh with
 |C=>rw[(h.aY:j=.none)];exact truthy_none (tr R (aY g▸q))
 |d u=>rw[(h.aY:j=.bool u)];exact xW (tr R (aY g▸q))
 |e i=>exact h.K λB=>truthy_int (tr R (by rw[show(i !=0)=!an (i=0) by by_cases z:i=0<;>simp[z]];exact aY g▸q))
 |f i=>injection g
 |h a=>injection g
 |r l=>refine h.ab λa w n r k s=>truthy_tuple ⟨_,r,aa,_,aa⟩ (by rw[(kJ k.e)];exact o3 s) (tr R ?_);rw[Ea k];exact aY g▸q
 |c a=>
  refine h.X λp y=>aL (jG.mp (show c[a]?.bind DV=O b from g)) λo A g=>?_;induction o using hf<;>first|(injection g;done)|skip
  rename_i l
  refine gG (R.y A y) λw n r k z s=>wpAny_truthy_list ⟨_,r,aa,_,aa⟩ (by rw[z];exact o3 s) (tr R ?_);rw[Ea k];exact aY g▸q
theorem Eb (c:bp v dp.toList k)(a:L k<=de)(e:dD k d=O p):0<=d/\d<2^63/\d<L k/\∃u,dp[d.toNat]?=O u/\a1 v u p:=by
 cases d with
 |negSucc _=>injection e
 |ofNat f=>simp only[dD]at e;refine aL (c.b e) λu g r=>?_;have b:=(cs.mp e).1;have:=o3 a;refine⟨ow _,Ka (nB.mpr b) (o3 a),by show(f:m)<_;exact ck (.Lt (.d .a) (.d .e)) (.lt .a .e) b,u,by simpa using g,r⟩
abbrev vO (g:bl)(u:ae):Prop:=∃a b,g.c.TypeIs u a/\typeLookup (.type a) (nC "__getitem__")=dk (O (.builtin b))
abbrev vP (H:Z)(K:x->Prop):bg:= λv a=>a=H/\K v
theorem vQ (R:bi t c v){K:Type} [iU K] {d:uY t.d t.c K}{k:ae}{b:K}{f:n (K×ae)}{l:n (K×x)}{a:ac}{z:x}{Q:x->Prop}(h:d.is b k=af)(g:v.c.heap.DictOf d a f)(i:dM v f l)(e:bH l b=O z)(q:Q z):
 bL t.a a8 (uZ (.ref a) k) (dP t v (vP c Q)) cb v.c/\vO v (.ref a):=by
 have:=i.at b;rw[e]at this;exact aL this λm j r=>⟨wpAny_getItem_of h g.mapOf j (e6 R r ⟨aa,q⟩),"dict",_,g.typeIs,slot_dict_getitem.lookup⟩
set_option tactic.hygienic true in
theorem Ny (T:d9 t)(R:bi t c v){u G:ae}{A H:x}{Q:x->Prop}(B:a1 v u A)(f:a1 v G H)(h:ed t.P A H c Q):
 bL t.a a8 (uZ u G) (dP t v (vP c Q)) cb v.c/\vO v u:=by
 induction A using eh<;>first|exact h.elim|skip
 case r l=>refine f.y h λn b h=>d4 h λz e h=>B.ab λa K k g s d=>?_;obtain⟨i,C,I,M,D,r⟩:=Eb s d e;refine⟨getItem_tuple ⟨_,g,aa,_,aa⟩ (jh ⋯ i) C (j:=n.toNat) ?_ D (e6 R r ⟨aa,h⟩),"tuple",_,⟨_,g,aa⟩,slot_tuple_getitem.lookup⟩;unfold seqIndex?;simp only[(show¬n<0 from by exact hO (.b (.Lt .a .K)) (.a .K .a) i),nF];rw[cP];simp only[fu,k2];exact⟨i,by rw[(kJ s.e)];exact I⟩
 case c a=>
  refine B.X λp E=>d4 h λo F h=>?_;induction o using hf<;>first|exact h.elim|skip
  case y l=>refine f.y h λn b h=>d4 h λz e h=>gG (R.y F E) λK k g s S d=>?_;obtain⟨i,C,I,M,D,r⟩:=Eb s d e;exact⟨wpAny_getItem_list ⟨_,g,aa,_,aa⟩ i C D (e6 R r ⟨aa,h⟩),"list",_,⟨_,g,aa⟩,Kb.lookup⟩
  case h l=>exact f.y h λn b h=>d4 h λz e h=>dU (R.e _ _ _ E F) λJ m q d=>vQ R (oD t.d t.c n b) m q e h
  case K l=>
   refine f.aT h λn b h=>gj h λw h=>d4 h λz e h=>m8 (R.e _ _ _ E F) λJ m q d N=>?_;have w:e2 n<L eF:=by rw[vv];simpa [g8,sH]using w
   exact vQ R (uX t.d t.c n b) m q (by have:=DF N w;rw[oU w]at this;rw[this];exact e) h
 case h a=>refine d4 h λl P h=>f.y h λn b h=>d4 h λz e h=>?_;obtain rfl:=B.aN;obtain⟨_,J,m,q,d⟩:=T.dictAt R P;exact vQ R (oD t.d t.c n b) m q e h
theorem Ec (R:bi t c v){u:ae}{b:x}{n:j}{d:Tok}{Q:x->Prop}(f:a1 v u b)(g:n<L eF)(h:eP b n c Q):
 bL t.a a8 (uZ u (.str (bG n) d)) (dP t v (vP c Q)) cb v.c/\vO v u:=by
 refine f.af h λa p i h=>d4 h λo k h=>?_;obtain⟨l,rfl,h⟩:=DT h;exact d4 h λz e h=>m8 (R.e _ _ _ i k) λa m q a r=>vQ R (uX t.d t.c _ d) m q (by rw[DF r g];exact e) h
theorem Ed (a:dC ae)(b:j):sI a ab (O b) ab=(a.toList.take b).toArray:=by
 have e:sI a ab (O (b:m)) ab=sI a (O ((0:j):m)) (O ((min b a.size:j):m)) none:=by
  delta sI;have:sliceBounds ab (O (b:m)) ab a.size=sliceBounds (O ((0:j):m)) (O ((min b a.size:j):m)) ab a.size:=by
   delta sliceBounds;simp only[Option.getD_none,show((1:m)>0)=fZ from by simp,u0];simp only[(jk [] [] (.b (.Lt (.d .K) .K)):¬(((0:j):m)<0)),(em (.b (.Lt (.d .a) .K)):¬((b:m)<0)),(show¬(((min b a.size:j):m)<0)from by exact em (.b (.Lt (.d .a) .K))),nF];refine Prod.ext ?_ (Prod.ext ?_ aa)
   ·refine(?_:(0:m)=max 0 (min 0 (a.size:m)));rw[Int.min_eq_left (ow _)];rfl
   ·exact(cp (max (0:m)) ((nE b a.size).elim (λh=>by rw[xX h]) λh=>by rw[sJ h,Int.min_eq_right (ov.mpr h),Int.min_self]):max 0 (min (b:m) (a.size:m))=max 0 (min ((min b a.size:j):m) (a.size:m)))
  rw[this]
 rw[e,slicePick_run a 0 (min b a.size) (rc _ _) (fK _)];simp only[List.drop_zero,Nat.sub_zero];congr 1;rw[<-(by simp:a.toList.length=a.size),Nat.min_comm,<-List.take_take];exact List.take_of_length_le (by rw[xY];exact(nE (b) (L a.toList)).elim (λc=>aU (he (xX c)) c) λc=>ck (.le .a .e) (.l .a .e) (sJ c))
noncomputable def kl (a b:ae):Obj:={cls:=.type "slice",data:=.fields #[a,b,.none]}
def yK (h:fS)(a b:ae):(h.push (kl a b)).IsSliceOf h.objs.size a b .none:=Heap.IsSliceOf.new ..
def vR (h:fS)(o a:g3):(∀b x,h.get? b=O x->((h.push o).push a).get? b=O x)/\h.objs.size<=((h.push o).push a).objs.size:=
 ⟨λb x e=>kD _ ((hS h o).1 b x e),by rw[oC];exact j8 (hS h o).2⟩
abbrev rP (c:cQ)(A:eb)(g:bl)(u a b:ae)(Q:bg):Prop:=
 bL c.a A (uZ u (.ref g.c.heap.objs.size)) (dP c g Q) cb {g.c with heap:=g.c.heap.push (kl a b)}/\vO g u
theorem yL (R:bi t c v){e:dC ae}{n:j}{f:E}{a:ac}{b d:ae}{g h:Q m}{i:bg}(k:v.c.heap.get? a=O {cls:=.type "list",data:=.seq e n})(l:IsPart b g)(o:IsPart d h)(p:e.size<=de)
 (r:bp v (sI e g h ab).toList f)(u:L f<=de)(q:mk c (.y f) i):rP t a8 v (.ref a) b d i:=by
 exact⟨aic (s:={v.c with heap:=v.c.heap.push (kl b d)}) ⟨_,(hS v.c.heap (kl b d)).1 _ _ k,aa,_,aa⟩ (yK _ _ _) l o .none (by intro z;injection z) (p' (f:=0) R (hS v.c.heap (kl b d)).2 (vR _ _ _).1 (vR _ _ _).2 (ji _ aa) r u q) (jt p),"list",_,⟨_,k,aa⟩,Kb.lookup⟩
theorem Nz (R:bi t c v){f:dC ae}{n:j}{g:E}{a:ac}{b d:ae}{h i:Q m}{k:bg}(l:v.c.heap.get? a=O {cls:=.type "list",data:=.seq f n})(p:IsPart b h)(r:IsPart d i)(u:f.size<=de)
 (w:bp v (sI f h i ab).toList g)(y:L g<=de)(q:mk (c++[.b]) (.y g) k):rP t a8 v (.ref a) b d k:=by
 refine⟨aic (s:={v.c with heap:=v.c.heap.push (kl b d)}) ⟨_,(hS v.c.heap (kl b d)).1 _ _ l,aa,_,aa⟩ (yK _ _ _) p r .none (by intro z;injection z) ?_ (jt u),"list",_,⟨_,l,aa⟩,Kb.lookup⟩;have e:(v.c.heap.push (kl b d)).get? v.c.heap.objs.size=O (kl b d):=ji _ aa;refine bd (R.K (ap:={v.c with heap:=v.c.heap.push (kl b d)}) (o:=.b) aa (br _) (hS _ _).1 (hS _ _).2 (gz e) (λo=>⟨_,e,by intro z;simp[kl]at z⟩)) λA o=>?_;obtain⟨x,B,C,D,F,G,H⟩:=p' (f:=0) (ap:={v.c with heap:=(v.c.heap.push (kl b d)).push {cls:=.type "list",data:=.seq (sI f h i ab)}}) A (br _) (hS _ _).1 (hS _ _).2 (ji _ aa) (w.u o.togh) y q;exact⟨x,B,C,D,F,o.y G,H⟩
theorem NA (T:d9 t)(R:bi t c v){u f:ae}{d y:x}{Q:bg}(k:a1 v u d)(o:a1 v f y)(h:yv t.P d y c Q):rP t a8 v u .none f Q:=by
 obtain⟨a,rfl,h⟩:=M4 h;refine d4 h λl p h=>o.y h λb a h=>gj h λs q=>?_;obtain rfl:=k.aN;refine gG (T.f5 R p) λa n g i j e=>?_;refine bu (nG (dT s)) ?_;rintro m rfl;induction l using cv with
 |nil=>exact yL R g .none (.int _ _) (aU (he j) e) (by rw[Ed];have:=i.take m;rwa [JZ]at this) (fK _) q
 |cons d r=>exact Nz R g .none (.int _ _) (aU (he j) e) (by rw[Ed];exact i.take m) (by rw[xY];exact aU (rc _ _) e) q
set_option tactic.hygienic true in
theorem NB (R:bi t c v){u j:ae}{i y:x}{Q:bg}(o:a1 v u i)(r:a1 v j y)(h:yw i y c Q):rP t a8 v u j .none Q:=by
 induction i using eh<;>first|exact h.elim|skip
 case r l=>refine r.y h λn w h=>gj h λb q=>?_;rw[fu,k2,k2]at b;refine bd b λz B=>o.ab λa A k f g d=>?_;have e:=kJ g.e;refine bu (nG (show 0<=n by exact go [_] [_] (.a .K .a) (.e (.a .r .a) (.a .a (.d .a))) [1,1,0] b)) ?_;rintro m rfl;exact⟨getItem_tuple_from (s:={v.c with heap:=v.c.heap.push (kl (.int m w) .none)}) ⟨_,(hS v.c.heap _).1 _ _ f,aa,_,aa⟩ (yK _ _ _) (jN (.le .r .a) (.e (.a .r (.d .a)) (.a (.d .a) (.d .e))) [1,1,0] b) (g6 (.le .a .e) (.l .e .l) (.e (.a .r (.d .a)) (.a (.d .a) (.d .l))) [1,-1,0,1] e b) (yF (f:=0) R (vR _ _ _).1 (vR _ _ _).2 (ji _ aa) (g.drop m) (by rw[B8];exact kc (.le .a .e) (.le .l .e) (.l (.b .a .s) .l) d (dc (jN (.le .a .e) (.e (.a .r (.d .a)) (.a (.d .a) (.d .e))) [1,0,1] b))) q) (by rw[e];exact jt d),"tuple",_,⟨_,f,aa⟩,slot_tuple_getitem.lookup⟩
 case c a=>refine o.X λp C=>R.af C h λl A k f g e d h=>r.y h λn w h=>gj h λb q=>?_;rw[fu,k2,k2]at b;refine bd b λz B=>?_;refine bu (nG z) ?_;rintro m rfl;exact yL R f (.int _ _) .none (aU (he e) d) (by rw[slicePick_from A m (g6 (.le .a .e) (.l .e .l) (.e (.a .K (.d .a)) (.a (.d .a) (.d .l))) [1,-1,0,1] e b)];exact g.drop m) (by rw[B8];exact kc (.le .a .e) (.le .l .e) (.l (.b .a .s) .l) d (dc (jN (.le .a .e) (.e (.a .K (.d .a)) (.a (.d .a) (.d .e))) [1,0,1] b))) q
theorem NC (R:bi t c v){u g i:ae}{j y z:x}{Q:bg}(w:a1 v u j)(A:a1 v g y)(B:a1 v i z)(h:vD j y z c Q):rP t a8 v u g i Q:=by refine w.af h λa p C h=>R.af C h λl D k E F o r h=>A.y h λn a d=>B.y d λb a s=>gj s λe q=>?_;rw[fu,fu,k2,k2,k2]at e;refine bd e ?_;clear e;intro f G;refine bd f λd s=>?_;refine bu (nG d) ?_;rintro m rfl;refine bu (nG (show 0<=b by exact go [_] [_] (.a .K .a) (.e (.a .K (.d .a)) (.a (.d .a) .a)) [1,0,1] f)) ?_;rintro H rfl;exact yL R E (.int _ _) (.int _ _) (aU (he o) r) (by rw[slicePick_run D m H (g6 (.le .a .e) (.l .e .l) (.a (.d .a) (.d .l)) [1,-1,1] o G) (jN (.le .a .e) (.e (.a .K (.d .a)) (.a (.d .a) (.d .e))) [1,0,1] f)];exact(F.drop m).take _) (by rw[xY,B8];exact aU (rc _ _) (aU (Nat.sub_le _ _) r)) q
end
theorem ND (e:p5 mu (p::k)=O au):∃d a,mu p=O d/\p5 mu k=O a/\au=d::a:=by
 have e:(mu p).bind (λd=>(p5 mu k).map (d::·))=O au:=e;cases b:mu p with
 |none=>rw[b]at e;injection e
 |some d=>
  rw[b]at e;have e:(p5 mu k).map (d::·)=O au:=e;cases c:p5 mu k with
  |none=>rw[c]at e;injection e
  |some a=>rw[c]at e;replace e:=aY e;subst e;exact⟨d,a,aa,aa,aa⟩
theorem NE (o:∀{g:ae}{h:x}{k:m},a1 v g h->mu h=O k->g7 v.c.heap f g k){i:n ae}{c:E}{l:bk}(r:bp v i c)(e:p5 mu c=O l):lN v.c.heap (g7 v.c.heap f) i l:=by
 induction c generalizing i l with
 |nil=>rw[r.C];exact aY e▸.l
 |cons h c p=>exact d0 (ND e) λd d s t q=>r.y λg d a b=>q▸.a (o a s) (p b t)
set_option tactic.hygienic true in
theorem Ee (n:j):∀{h:ae}{g:x}{k:m},a1 v h g->yx n g=O k->g7 v.c.heap n h k:=by
 induction n with
 |zero=>
  intro h g k r b;induction g using eh<;>first|cases b|skip
  exact r.K λt=>⟨_,_,aa,aa⟩
 |succ n i=>
  intro h g k r b;cases g
  case e=>replace b:=aY b;subst b;exact r.K λt=>.inl ⟨_,_,aa,aa⟩
  case C=>injection b
  case d=>injection b
  case f=>injection b
  case c=>injection b
  case h=>injection b
  case r l=>refine aL (h3.mp b) ?_;rintro s o rfl;exact r.ab λa u w p q y=>.inr ⟨_,_,_,_,aa,p,NE i q o,aa⟩
theorem Ef:∀(n:j){a8:eb}{ap:b1}{v:ae}{g:m}{Q:m->b1->Prop},g7 ap.heap n v g->a8.units+n+1<cLine->(∀d,Q g {ap with toks:=d})->bL (oy mv eo) a8 (pyHash v) Q dN ap:=by
 intro n;induction n with
 |zero=>intro a8 ap v g Q h b q;refine gq (show∃i t,v=.int i t/\g=oA i from h) λi t e c=>?_;subst e c;exact wpAny_pyHash_int (q _)
 |succ n A=>
  intro a8 ap v g Q h l q;refine gQ h (λh=>gq h λi t e c=>by subst e c;exact wpAny_pyHash_int (q _)) λh=>nL h λo x x p e r B c=>?_;subst e;have f:ap.TypeIs (.ref o) "tuple":=⟨_,r,aa⟩
  first|unfold pyHashByItsType|skip
  first|refine bh (wpAny_cRoomFor_or (.inr (ex (.lt .a .e) (.lt (.b (.b .a (.b .l .r)) .r) .e) l)) ?_)|skip
  refine bh (wpAny_specialOf f B9.lookup ?_);rw[ce (by rw[beq_builtin_none];exact k3)];refine bh (wpAny_specialOf f B9.lookup (bh (wpAny_callSpecialIfBoundUnlessNone?_slot f B9 (u1 B9 f PySem.F.entry_tuple_hash ?_ (PySem.F.args_tuple_hash_1 _)))));refine(?_:bL _ _ (Builtin.Tuple.tupleItemsOf (.ref o)>>=_) _ _ ap);refine bh (wpAny_tupleItemsOf r aa (bh ?_));rw[<-Array.forIn_toList];refine wpAny_forIn_list _
   (λs (b:dC m) hp=>∃done left d,p=done++left/\lN ap.heap (g7 ap.heap n) s left/\b.toList=done/\hp={ap with toks:=d})
   _ ?_ ?_ _ _ ⟨[],p,ap.toks,aa,B,aa,aa⟩
  ·intro x s b hp u;refine ke u ?_;clear u;rintro done left d rfl hl hb rfl;cases hl with
   | @a _ k _ w C y=>
     refine bh (A (ap:={ap with toks:=d}) C (by simp only[Kc];exact ex (.lt (.b (.b (.b .a .r) .e) .r) .l) (.lt (.b (.b .a (.b .e .r)) .r) .l) l) λz=>?_)
     first
      |exact cX ⟨done++[k],w,z,by simp,y,by simp[hb],aa⟩
      |exact x (wpAny_pure (wpAny_pure ⟨done++[k],w,z,by simp,y,by simp[hb],rfl⟩))
  ·intro b hp u;refine ke u ?_;clear u;rintro done left d rfl hl hb rfl;cases hl;rw[ca]at c;refine(?_:bL _ _ (retInt (sA b.toList)) _ _ _);rw[hb];refine wpAny_ret_mkInt (?_:bL _ _ (if(an (-(2:m)^63<=sA done)&&an (sA done<2^63))=af then _ else _) Q dN _);delta B2 at c;by_cases k:(an (-(2:m)^63<=sA done)&&an (sA done<2^63))=af
   ·rw[cP k];rw[cP k]at c;exact cX (c▸q _)
   ·rw[ce k];rw[ce k]at c;exact bh (B' (cX (c▸q _)))
theorem NF (b:d∉c5.toList.map (·.hash)):placesWithHash c5.size (λi=>c5[i]?.map (·.hash)) d=[]:=by
 delta placesWithHash
 rewrite [aid]
 intro i a;have a:i<c5.size:=Ca.mp a;simp only[aie a,Option.map_some,xZ,Option.some.injEq];intro e;exact b (f2.mpr ⟨c5[i],by simp,e⟩)
def ai4 {h:xT aV}(a:¬aV)(q:fn): @ite Prop aV h dr fn:=by rw[ce a];exact q
theorem Eg {a:Q j->b1->Prop}(b:ap.heap.get? ak=O {cls:=.type "dict",data:=.dict c5 f})
 (c:∀e,e∈c5->g7 ap.heap 8 e.key e.hash)(g:g7 ap.heap 8 (.ref gJ) d)(i:d∉c5.toList.map (·.hash))(h:a ab ap):bL (oy mv eo) a8 (dictFind ak (.ref gJ) d) a dN ap:=by
 delta dictFind
 try with_reducible refine eE ?_
 refine bh (wpAny_dictEntries b aa ?_);dsimp only;rw[NF i];have k:(c5.any λe=>e.key==Value.ref gJ&&e.hash !=d)=false:=by
  rewrite [Array.any_eq_false']
  intro e l;simp only[fu,bne_iff_ne,ne_eq,not_and,aif];intro q;exact g7.b 8 _ _ _ ((k4 q)▸c e l) g
 refine(?_:bL _ _ (if(c5.any λe=>e.key==Value.ref gJ&&e.hash !=d)=af then _ else _) a dN ap);rw[ce (by rw[k];exact k3)];exact cX h
theorem NG {b:Q ae->b1->Prop}(g:a8.units+20<cLine)(i:ap.heap.get? ak=O {cls:=.type "dict",data:=.dict c5 f})
 (k:∀e,e∈c5->g7 ap.heap 8 e.key e.hash)(c:g7 ap.heap 8 (.ref gJ) d)(l:d∉c5.toList.map (·.hash))(h:∀a,b ab {ap with toks:=a}):bL (oy mv eo) a8 (dictGet ak (.ref gJ)) b dN ap:=by
 delta dictGet
 try with_reducible refine eE ?_
 exact bh (Ef 8 c (ck (.lt (.b (.b .a (.y 8)) .r) .e) (.lt (.b .a (.y 20)) .e) g) λa=>bh (Eg (ap:={ap with toks:=a}) i k c l (cX (h a))))
theorem NH (g:a8.units+20<cLine)(b:ap.heap.get? ak=O {cls:=.type "dict",data:=.dict c5 f})
 (i:∀e,e∈c5->g7 ap.heap 8 e.key e.hash)(c:g7 ap.heap 8 (.ref gJ) d)(k:d∉c5.toList.map (·.hash))(l:c5.size<=pP)
 (h:∀a,i7 ⟨⟩ {ap with heap:=ap.heap.update ak (Kd (·.push ⟨d,.ref gJ,bE⟩)),toks:=a}):bL (oy mv eo) a8 (dictSet ak (.ref gJ) bE) i7 dN ap:=by
 delta dictSet
 try with_reducible refine eE ?_
 refine bh (Ef 8 c (ck (.lt (.b (.b .a (.y 8)) .r) .e) (.lt (.b .a (.y 20)) .e) g) λa=>?_);delta dictSetHashed
 try with_reducible refine eE ?_
 exact bh (Eg (ap:={ap with toks:=a}) b i c k (bh (B' (wpAny_updateDictKeys (hz:=l) (s:={ap with toks:=a}) b aa (h a)))))
theorem NI (g:a8.units+50<cLine)(c:ap.heap.get? ak=O {cls:=.type "dict",data:=.dict c5 f})
 (i:∀e,e∈c5->g7 ap.heap 8 e.key e.hash)(k:g7 ap.heap 8 (.ref gJ) d)(l:d∉c5.toList.map (·.hash))(n:c5.size<=pP)
 (h:∀b,i7 ⟨⟩ {ap with heap:=ap.heap.update ak (Kd (·.push ⟨d,.ref gJ,bE⟩)),toks:=b}):bL (oy mv eo) a8 (sK (.ref ak) (.ref gJ) bE) i7 dN ap:=by
 have a:ap.TypeIs (.ref ak) "dict":=⟨_,c,aa⟩;delta sK
 try with_reducible refine eE ?_
 refine bh (wpAny_sequenceKey a ⋯ (bh (aig (name:=nC "__setitem__") a slot_dict_setitem (u1 slot_dict_setitem a entry_dict_setitem ?_ (args_dict_setitem _ _ _)))));refine bh (wpAny_notOrdered_dict a ?_);refine(?_:bL _ _ (dictSet ak (.ref gJ) bE>>=_) _ _ ap);exact bh (NH (by simp only[Kc];exact ck (.lt (.b (.b .a .r) (.y 20)) .e) (.lt (.b .a (.y 50)) .e) g) c i k l n λb=>cX ⟨.none,aa,cX (h b)⟩)
theorem NJ (c:(ak==pQ)=aN)(g:a8.units+50<cLine)(b:ap.heap.get? ak=O {cls:=.type "dict",data:=.dict c5 f})
 (i:∀e,e∈c5->g7 ap.heap 8 e.key e.hash)(k:g7 ap.heap 8 (.ref gJ) d)(l:d∉c5.toList.map (·.hash))(h:∀a,qd bE {ap with toks:=a}):
 bL (oy mv eo) a8 (lD (.builtin "dict.get") [.ref ak,.ref gJ,bE]) qd dN ap:=by
 refine u1 x0 (⟨_,b,aa⟩) Ke ((bh (NG (by simp only[Kc];exact ck (.lt (.b (.b .a .r) (.y 20)) .e) (.lt (.b .a (.y 50)) .e) g) b i k l λa=>?_):bL _ _ (dictGet ak (.ref gJ)>>=_) _ _ ap)) (aih _ _ _);exact bh (wpAny_missed_other c (cX ⟨_,aa,h a⟩))
theorem NK (a:ap.heap.get? ak=O {cls:=.type "list",data:=.seq dp f})
 (c:0<=d)(e:d<2^63)(h:d<dp.size)
 (g:i7 ⟨⟩ {ap with heap:=ap.heap.update ak (j9 (·.setIfInBounds d.toNat bE))}):bL (oy mv eo) a8 (sK (.ref ak) (.int d jo) bE) i7 dN ap:=by
 have b:ap.TypeIs (.ref ak) "list":=⟨_,a,aa⟩;delta sK
 try with_reducible refine eE ?_
 first|refine bh (cX ?_)|skip
 refine bh (wpAny_sequenceKey b ⋯ (bh (aig (name:=nC "__setitem__") b slot_list_setitem (u1 slot_list_setitem b entry_list_setitem ?_ (args_list_setitem _ _ _)))));refine(bh (wpAny_listSubscript_int (fitsIndex_of c e) ?_):bL _ _ (Builtin.List.listSubscript? (.int d jo)>>=_) _ _ ap);clear e;refine bu (nG c) ?_;rintro i rfl;refine bh (bh (wpAny_seqItemAt a aa (cX ?_)));rw[(aie (nB.mp h:i<dp.size))];refine bh (wpAny_setSeqItemAt a aa ?_)
 first
  |exact bh (cX (cX ⟨.none,aa,cX g⟩))
  |exact k ⟨.none,rfl,k g⟩
theorem vS {K:Type} [iU K]:∀(l:n (K×x))(k:K)(v:x),L (bF l k v)<=L l+1:=by
 intro l k v;induction l with
 |nil=>exact br _
 |cons q r a=>
  induction q using uP with|mk b c=>
  by_cases e:b=k
  ·simp[bF,e]
  ·simp only[bF,e,nF,hM];have:=a;exact ck (.le (.b .a .r) (.b (.b .e .r) .r)) (.le .a (.b .e .r)) this
def dM.r {K:Type} [iU K] {c:uY mv eo K}{h:fS}{a:ac}{b:n (K×ae)}(d:h.DictOf c a b):(b.map (·.1)).Nodup:=by obtain⟨_,_,_,_,_,_,_,_,q⟩:=d;exact q
section
theorem Eh (R:bi t c v){a:j}{p:ac×ac}{l:n (j×x)}{b:j}{d:Tok}{e:ae}{z:x}{Q:bI} (f:v.a[a]?=O p) (g:c[a]?=O (.K l)) (h:b<L eF)(o:a1 v e z)(r:L l+1<=de)(q:Q (c.set a (.K (bF l b z)))):
 bL t.a a8 (sK (.ref p.1) (.str (bG b) d) e) (tq t v Q) cb v.c:=by
 refine m8 (R.e _ _ _ f g) λC i k s m=>wpAny_setItem_pairs (hsz:=by rw[k.e];unfold hR;rw[cj];exact jt s) (uX t.d t.c (bG b) d) i λu w y=>?_;obtain⟨A,B⟩:=R.X (ap:={v.c with heap:=u,toks:=v.c.toks+1}) (b:=.K (bF l b z)) g f aa aa y λX=>⟨_,w,by have:=(k.stored o (dM.r i) (bG b)).u X;rw[DG z m h]at this;exact this,by have:=vS l b z;exact aU this r,DH z m h⟩
 exact⟨_,_,A,B,q⟩
set_option tactic.hygienic true in
theorem NL (R:bi t c v)(T:qb a8){u i m:ae}{K D z:x}{Q:bI}(U:a1 v u K)(r:a1 v i D)(H:a1 v m z)(h:mp K D z c Q):
 bL t.a a8 (sK u i m) (tq t v Q) cb v.c:=by
 refine U.af h λa p f h=>d4 h λo g h=>?_;induction o using hf<;>first|exact h.elim|skip
 case y l=>
  refine r.y h λn E d=>gj d λs q=>?_;rw[fu,k2,k2]at s;refine bd s λs F=>gG (R.y g f) λV k w W Y j=>?_;have Z:=o3 j;refine bu (nG s) ?_;rintro n rfl;refine NK w s (Ka F Z) (by rw[Y];exact F) ?_;obtain⟨A,B⟩:=R.X (ap:={v.c with heap:=v.c.heap.update p.1 (j9 (·.setIfInBounds n m))}) (b:=.y (l.set n z)) g f aa aa (Cb ..)
   λX=>⟨_,_,IsL.update w _,by simpa using(W.X n H).u X,by rw[J2];exact j⟩
  exact⟨_,_,A,B,q⟩
 case h l=>exact r.y h λn E d=>ms d λd q=>dU (R.e _ _ _ f g) λajp M C j=>wpAny_setItem_pairs (hsz:=by rw[C.e];exact jt j) (oD t.d t.c n E) M λCS OL ajl=>bd (R.X (ap:={v.c with heap:=CS,toks:=v.c.toks+1}) (b:=.h (bF l n z)) g f aa aa ajl λX=>⟨_,OL,(C.stored H (dM.r M) n).u X,by have:=vS l n z;exact aU this d⟩) λA B=>⟨_,_,A,B,q⟩
 case K l=>
  refine r.aT h λn E d=>gj d λG d=>ms d λd q=>?_;have G:e2 n<L eF:=by rw[vv];simpa [g8,sH]using G
  have:=Eh (a8:=a8) (d:=E) R f g G H d q;rw[oU G]at this;exact this
 case c l=>
  refine d4 h λk N d=>gj d λF d=>ms d λd q=>?_;refine gG (R.e _ _ _ f g) ?_;rintro I ajm w C rfl j;obtain⟨P,rfl⟩:∃P,D=.r P:=by induction D using eh<;>first|exact⟨_,aa⟩|injection N
  have S:=Ee 8 r N;refine ke r.aw ?_;rintro b V n rfl ajq ajn ajn;refine NI (ck (.lt (.b .a (.y 50)) .e) (.lt (.b .a (.y 100)) .e) T) w C S (by simpa using F:k∉I.toList.map (·.hash)) (by have:=jt j;simpa using this) λajo=>?_;obtain⟨A,B⟩:=R.X (ap:={v.c with heap:=v.c.heap.update p.1 (Kd (·.push ⟨k,.ref b,m⟩)),toks:=ajo}) (b:=.c (I.toList.map (·.hash)++[k])) g f aa aa (Cb ..)
   λX=>⟨I.push ⟨k,.ref b,m⟩,ajm+1,aii _ w aa,λe J=>by
    rcases Array.mem_push.mp J with J|rfl
    ·exact(C e J).u X.r 8
    ·exact S.u X.r 8,by simp,by rw[a6];exact d⟩
  exact⟨_,_,A,B,q⟩
theorem Ei (R:bi t c v){u d:ae}{e z:x}{n:j}{f:Tok}{Q:bI}(g:a1 v u e)(i:a1 v d z)(h:rI e n z c Q):
 bL t.a a8 (sK u (.str (bG n) f) d) (tq t v Q) cb v.c:=by
 refine g.af h λa p k h=>d4 h λo m h=>?_;obtain⟨l,rfl,h⟩:=DT h;exact gj h λr b=>ms b λb q=>Eh R k m (by rw[vv];simpa [g8,sH]using r) i b q
end
theorem e3.i:∀{d:n eL}{f:n (j×x)},e3 v d f->∀c,c<L eF->match bH f c with|some z=>∃e,d.find? (·.key.isStr (bG c))=O e/\a1 v e.val z|none=>d.find? (·.key.isStr (bG c))=none:=by
 intro d f h;induction h with
 |l=>intro c b;rfl
 | @a k y t g z d f m o b p=>
   intro c i;unfold bH;by_cases e:k=c
   ·subst e;simp only[u0];exact⟨⟨y,.str (bG k) t,g⟩,by rw[List.find?_cons];simp[Cc],o⟩
   ·have r:((⟨y,.str (bG k) t,g⟩:eL).key.isStr (bG c))=false:=by simp[Cc,(show bG k≠bG c fromλq=>e (vx m i q))]
    simp only[e,nF];rw[List.find?_cons,r];exact(p c i)
theorem e3.b:∀{b:n eL}{c:n (j×x)},e3 v b c->b.any (·.refKey)=false:=by
 intro b c h;induction h with
 |l=>rfl
 |a _ _ _ d=>rw[xS,d];rfl
theorem e3.bF (r:f<L eF){y:m}{t:Tok}{p:ae}{z:x}(s:a1 v p z):∀{c:n eL}{d:n (j×x)},e3 v c d->match c.findIdx? (·.key.isStr (bG f))with|some i=>e3 v (c.modify i λe=>{e with val:=p}) (bF d f z)|none=>e3 v (c++[⟨y,.str (bG f) t,p⟩]) (bF d f z):=by
 intro c d h;induction h with
 |l=>exact .a r s .l
 | @a k u w A D c d g B b o=>
   rw[List.findIdx?_cons];by_cases e:k=f
   ·subst e;simp only[(by simp[Cc]:((⟨u,.str (bG k) w,A⟩:DictEntry).key.isStr (bG k))=true),u0,Internal.bF];exact .a g s b
   ·have C:((⟨u,.str (bG k) w,A⟩:eL).key.isStr (bG f))=false:=by simp[Cc,(show bG k≠bG f fromλq=>e (vx g r q))]
    simp only[C,u2,nF,Internal.bF,e];cases q:c.findIdx? (·.key.isStr (bG f))with
    |none=>rw[q]at o;exact .a g B o
    |some i=>rw[q]at o;exact .a g B o
def NM (r:a1 v bE p):handedIn bE=true:=by cases r<;>rfl
theorem Ej (r:e3 v c5.toList cg)(i:j)(b:i<L eF){o:g3}(c:o.data=.dict c5 f):
 match bH cg i with|some z=>∃a,sL (bG i) o=O (O a)/\a1 v a z|none=>sL (bG i) o=O none:=by
 have:=r.i i b;delta sL;rw[c];dsimp only;cases e:bH cg i with
 |some z=>rw[e]at this;refine aL this λd q a=>?_;rw[q];exact⟨_,aa,a⟩
 |none=>rw[e]at this;rw[show c5.toList.find? (·.key.isStr (bG i))=ab from this];simp only[r.b,u2,nF]
theorem NN (c:k1 jR (.ref ak) a9=O ab)(a:(clsIn jR ak).any (·.hasDict)=af)(d:sL a9 mm=O (O bE)):findObj jR ak (O mm) a9=O (.value bE):=by
 delta findObj;cases q:clsIn jR ak with
 |none=>rw[q]at a;injection a
 |some b=>rw[q]at a;refine(?_:((k1 jR (.ref ak) a9).bind _)=_);rw[c];refine(?_:((if b.hasDict then sL a9 mm else O ab).bind _)=_);rw[cP (show b.hasDict=af from a),d];rfl
theorem d9.b (T:d9 t)(R:bi t c v){C:ac}{n:j}(h:t.P.x C n=af):∃K:Frag,K.In v.c.heap/\n<L eF/\k1 K (.ref C) (bG n)=O ab/\(clsIn K C).any (·.hasDict)=af/\k1 K (.ref C) "__getattribute__"=O (O (.builtin "object.__getattribute__"))/\
 k1 K (.ref C) "__setattr__"=O (O (.builtin "object.__setattr__"))/\plainOver K C=true:=by
 refine m8 T.h λK X b u u=>?_;have:=b C n h;simp only[yH,fu,xZ,k2]at this;refine bd this ?_;clear this;intro d u;refine bd d λf g=>bd f λi k=>bd i λl m=>bd l λp q=>bd p λr s=>?_;exact⟨K,λa o e=>R.a a o (X a o e),r,s,q,m,k,g⟩
theorem NO (T:d9 t)(R:bi t c v){u:ae}{d:x}{n:j}{g:bm}{Q:x->Prop}(i:a1 v u d)(h:gH t.P d n c Q):
 bL t.a a8 (getAttr u (bG n) g) (dP t v (vP c Q)) cb v.c:=by
 refine i.af h λa p k h=>d4 h λo l h=>?_;obtain⟨C,a,rfl,h⟩:=DU h;refine gj h λs w=>d4 w λz y q=>m8 (T.b R s) λK X A B D=>lL D λE F G G=>?_;obtain⟨H,e,m,I,r,a⟩:=R.e _ _ _ k l;have b:=Ej (o:={cls:=.type "dict",data:=.dict e m}) r n A aa;rw[y]at b;exact aL b λa b f=>get_value X (od:=O {cls:=.type "dict",data:=.dict e m}) ⟨H,aa,aa,I⟩ F (NN B E b) (NM f) (e6 R f ⟨aa,q⟩)
def e3.e (r:e3 v lS cg):L lS=L cg:=by
 induction r with
 |l=>rfl
 |a _ _ _ b=>simp[b]
theorem e3.r (r:e3 v c5.toList cg)(c:z<L eF)(e:a1 v bE p):
 ∃b g,Kf (bG z) d (.str (bG z) jo) bE {cls:=.type "dict",data:=.dict c5 f}={cls:=.type "dict",data:=.dict b g}/\e3 v b.toList (Internal.bF cg z p)/\b.size<=c5.size+1:=by
 obtain⟨g⟩:=c5;have b:=e3.bF c (y:=d) (t:=jo) e r;simp only[Obj.putName_eq,Obj.putNameByArray,List.findIdx?_toArray];cases q:g.findIdx? (·.key.isStr (bG z))with
 |none=>rw[q]at b;exact⟨_,_,aa,by simpa using b,by simp⟩
 |some i=>rw[q]at b;exact⟨_,_,aa,by simpa using b,by simp⟩
theorem NP (T:d9 t)(R:bi t c v){u g:ae}{y z:x}{n:j}{Q:bI}(H:a1 v u y)(J:a1 v g z)(h:vE t.P y n z c Q):
 bL t.a a8 (setAttr u (bG n) g) (tq t v Q) cb v.c:=by
 obtain⟨b,rfl,h⟩:=ti h;refine H.X λM A=>?_;obtain⟨N,d⟩:=M;refine d4 h λo B h=>?_;obtain⟨C,i,rfl,h⟩:=DU h;refine gj h λP S=>gj S λU q=>m8 (T.b R P) λK l V Y Z=>lL Z λCS b OL ajl=>?_;obtain⟨D,f,m,k,w,ajm⟩:=R.e _ _ _ A B;have I:W.InstAt v.c.heap N (nD C d) C (O {cls:=.type "dict",data:=.dict f m}):=⟨D,aa,aa,k⟩;refine set_plain l I OL (osa_open (s:={v.c with toks:=v.c.toks+1}) (r:=ab) l I ajl (by unfold takerIn;rw[Y];rfl) λb=>aL (any_some CS) λb ajn ajo=>bh (cX (bh (bh (wpAny_loadPart (s:={v.c with toks:=v.c.toks+1}) D (bh (Looks.here (s:={v.c with toks:=v.c.toks+1}) (looks_clsIn l ajn) ?_)))))));rw[ajo];refine cX (a:=O d) (bh (cX (bh (bh (bh (wpAny_askSetting (cX (bh (wpAny_mkText (bh (wpAny_loadPart (s:={v.c with toks:=v.c.toks+1+1}) k ?_)))))))))));dsimp only;rw[aRefKeyMayBeTheName_at,(by rw[(by rw[<-Array.any_toList];exact w.b:f.any (·.refKey)=false),Bool.and_false]:(!f.any (·.key.isStr (bG n))&&f.any (·.refKey))=false)];refine d0 (e3.r (f:=m) (d:=Kg t.c.params (bG n)) (jo:=v.c.toks+1) w V J) λE F e p ajp=>?_;have ajq:f.size=L i:=by simpa using w.e
 have ajr:L i+1<=100:=(by simpa [sH]using U:i.length<100);have G:(v.c.heap.update d (Kf (bG n) (Kg t.c.params (bG n)) (.str (bG n) (v.c.toks+1)) g)).get? d=O {cls:=.type "dict",data:=.dict E F}:=by rw[aii _ k (by rw[e];rfl),e]
 refine wpAny_updatePart (s:={v.c with toks:=v.c.toks+1+1}) k (bh (wpAny_lookBehind G (pastItsLine_dict (aU ajp (gy (by rw[ajq];exact aU ajm ⋯)))) (cX ?_)));obtain⟨ajs,ajt⟩:=R.aP (ap:={v.c with heap:=v.c.heap.update d (Kf (bG n) (Kg t.c.params (bG n)) (.str (bG n) (v.c.toks+1)) g),toks:=v.c.toks+1+1}) B A (Cb ..)
  λX=>⟨E,F,G,p.u X,aU (vS i n z) ajr⟩
 exact⟨_,_,ajs,ajt,q⟩
open Internal.bp renaming casesOn->sM
section
theorem vT (R:bi t c v){a:j}{p:ac×ac}{l b:E}{e:dC ae}{n:j}{f:dC ae->dC ae}{g:ae}{d:x}{Q:bg} (i:c[a]?=O (.y l)) (k:v.a[a]?=O p) (m:v.c.heap.get? p.1=O {cls:=.type "list",data:=.seq e n})
 (o:bp v (f e).toList b)(r:L b<=de)(s:a1 v g d)(q:Q d (c.set a (.y b))):
 dP t v Q g {v.c with heap:=v.c.heap.update p.1 (j9 f)}:=by
 exact bd (R.X (ap:={v.c with heap:=v.c.heap.update p.1 (j9 f)}) (b:=.y b) i k aa aa (Cb ..) λX=>⟨_,_,IsL.update m f,o.u X,r⟩) λu h=>⟨d,_,_,s.u h.togh,u,h,q⟩
theorem bp.getLast (r:bp v dp.toList k)(e:k.getLast?=O p):∃u,dp[dp.size-1]?=O u/\a1 v u p:=by rw[List.getLast?_eq_getElem?]at e;exact aL (r.b e) λu a b=>⟨u,by rw[(kJ r.e)];simpa using a,b⟩
theorem bp.s (r:bp v dp.toList k):bp v (dp.eraseIdxIfInBounds (dp.size-1)).toList k.dropLast:=by
 have:(dp.eraseIdxIfInBounds (dp.size-1)).toList=dp.toList.dropLast:=by
  obtain⟨k⟩:=dp;simp only[List.eraseIdxIfInBounds_toArray,List.size_toArray];induction k using cv with
  |nil=>rfl
  |cons x r=>exact List.eraseIdx_eq_dropLast (by simp)
 rw[this];exact r.dropLast
theorem NQ (a:z<L eF)(r:e3 v c5.toList cg)(e:bH cg z=ab):shadowIn (O {cls:=.type "dict",data:=.dict c5 f}) (bG z)=O false:=by have:=Ej (o:={cls:=.type "dict",data:=.dict c5 f}) r z a aa;rw[e]at this;have this:sL (bG z) {cls:=.type "dict",data:=.dict c5 f}=O none:=this;refine(?_:(sL (bG z) {cls:=.type "dict",data:=.dict c5 f}).map _=_);rw[this];rfl
noncomputable def i5.u (k:i5):Value:=match k with
 |.d f=>.ref f|.i=>.builtin "list.append"|.a=>.builtin "list.extend"|.s=>.builtin "list.pop"|.b=>.builtin "dict.get"
def kg.e (n:kg):Str:=match n with
 |.d n=>bG n|.i=>"append"|.a=>"extend"|.s=>"pop"|.b=>"get"
theorem Ek {a:ac}{K:Type} [iU K] {f:uY t.d t.c K}{g:n (K×ae)}{h:hg bm}{Q:ae×n ae->b1->Prop}(d:v.c.heap.DictOf f a g)(q:Q (i5.b.u,[.ref a]) v.c):bL t.a a8 (getMethod (.ref a) "get" h) Q cb v.c:=
 getMethod_builtin d.typeIs aij x0 aik (λb c=>by injection c with c;subst c;exact i0 d λo e e i j e=>⟨o,i,j.2.1⟩) q
def aX.r {f:E->Q ar}(e:aZ.D ab (l:=f)=O bW)(k:∀l,aZ=.y l->f l=O bW->aV):aV:=by
 induction aZ using hf<;>first|exact k _ aa e|injection e
def aX.i {f:ac->n (j×x)->Q ar}(e:aZ.D ab (c:=f)=O bW)(k:∀C d,aZ=.a C d->f C d=O bW->aV):aV:=by
 induction aZ using hf<;>first|exact k _ _ aa e|injection e
set_option tactic.hygienic true in
theorem NR (T:d9 t)(R:bi t c v){u:ae}{B:x}{h:kg}{k:i5}{J:hg bm}(G:a1 v u B)(e:hD t.P B h c=O k)
 {Q:ae×n ae->b1->Prop}(q:Q (k.u,[u]) v.c):bL t.a a8 (getMethod u h.e J) Q cb v.c:=by
 induction B using eh<;>first|cases e|skip
 case c a=>
  refine aL G.an ?_;rintro p rfl s;refine aL (jG.mp (show c[a]?.bind (DY t.P h)=O k from e)) λo j e=>?_;induction h using kg.casesOn with
   |d h=>
    refine aX.i e λK D g e=>?_;rw[g]at j;have e:(match bH D h with|none=>(t.P.D K h).map i5.d|some _=>ab)=O k:=e;cases E:bH D h with
    |some _=>rw[E]at e;injection e
    |none=>rw[E]at e;refine aL (h3.mp e) ?_;rintro f L rfl;refine m8 T.h λajl X ajm M ajn=>?_;have:=M _ _ _ L;simp only[vK,plainGet,isFn,fu,xZ,k2]at this;refine bd this ?_;clear this;intro N ajo;refine c9 N λP S U=>bd P λV W=>bd V λY Z=>?_;obtain⟨g,H,m,w,r,ajp⟩:=R.e _ _ _ s j;exact method_fn (λa o e=>R.a a o (X a o e)) (od:=O {cls:=.type "dict",data:=.dict H m}) ⟨g,aa,aa,w⟩ S U Z W (NQ Y r E) q
   |i=>refine aX.r e λl z e=>gq (R.y (z▸j) s) λI m g A=>?_;rw[<-aY e]at q;exact Kh ail PySem.F.type_list_append ⟨_,g,aa,_,aa⟩ ⟨_,g,aa⟩ q
   |a=>refine aX.r e λl z e=>gq (R.y (z▸j) s) λI m g A=>?_;rw[<-aY e]at q;exact Kh Ki PySem.F.type_list_extend ⟨_,g,aa,_,aa⟩ ⟨_,g,aa⟩ q
   |s=>refine aX.r e λl z e=>gq (R.y (z▸j) s) λI m g A=>?_;rw[<-aY e]at q;exact Kh aim PySem.F.type_list_pop ⟨_,g,aa,_,aa⟩ ⟨_,g,aa⟩ q
   |b=>
    induction o using hf with
    |y l=>injection e
    |K l=>injection e
    |a C D=>injection e
    |b=>injection e
    |h l=>replace e:=aY e;subst e;exact aL (R.e _ _ _ s j) λCS w A=>Ek w q
    |c l=>replace e:=aY e;subst e;exact gq (R.e _ _ _ s j) λH m g A=>getMethod_builtin ⟨_,g,aa⟩ aij x0 aik (λb F=>by injection F with F;subst F;exact⟨_,g,aa⟩) q
 case h a=>
  obtain rfl:=G.aN;induction h using kg.casesOn<;>first|cases e|skip
  refine aL (h3.mp e) ?_;rintro l OL rfl;obtain⟨_,CS,w,_⟩:=T.dictAt R OL;exact Ek w q
variable{aI:b2}{ts:n ae->Prop}
theorem dM.getD {b:n (m×ae)}(r:dM v b aI)(k:m){d:ae}{z:x}(c:a1 v d z):a1 v ((ra b k).getD d) ((bH aI k).getD z):=by
 have:=r.at k;cases e:bH aI k with
 |some y=>rw[e]at this;refine aL this λu q f=>?_;rw[q];exact f
 |none=>rw[e]at this;rw[show ra b k=ab from this];exact c
set_option tactic.hygienic true in
theorem El (R:bi t c v){i:ae}{d:x}{l:E}(j:a1 v i d)(e:nT c d=O l):
 ∃a b n,i=.ref a/\(v.c.heap.get? a=O {cls:=.type "list",data:=.seq b n}\/v.c.heap.get? a=O {cls:=.type "tuple",data:=.seq b n})/\bp v b.toList l/\L l<=de:=by
 induction d using eh<;>first|(injection e;done)|skip
 ·exact j.ab λa b n f g h=>aY e▸⟨a,b,n,aa,.inr f,g,h⟩
 ·exact j.X λp k=>aL (jG.mp e) λo m e=>aX.r e λo q e=>gG (R.y (q▸m) k) λb n f g o h=>aY e▸⟨_,b,n,aa,.inl f,g,h⟩
theorem Em (R:bi t c v){b:ac}{f:n (m×ae)}{g:b2}{i:n ae}{j:E}{Q:bg}(o:(b==pQ)=aN)(d:v.c.heap.DictOf (lE t.d t.c) b f)(p:dM v f g)(s:bp v i j)(h:yB g j λu=>Q u c):
 bL t.a a8 (lD (.builtin "dict.get") (.ref b::i)) (dP t v Q) cb v.c:=by
 induction s using sM with
 |l=>exact h.elim
 |a w e=>
  refine w.y h λk q r=>?_;induction e using sM with
  |l=>exact call_meetsIn x0 d.typeIs Ke (PySem.F.args_dict_get_2 _ _) (meets_dict_get (lE t.d t.c) b (oD t.d t.c k q) o) ⟨_,d.mapOf,e6 R (p.getD k .C) r⟩
  |a x e=>refine bd (tk r) ?_;rintro rfl y;cases e;exact call_meetsIn x0 d.typeIs Ke (aih _ _ _) (meets_dict_get_default (lE t.d t.c) b (oD t.d t.c k q) o _) ⟨_,d.mapOf,e6 R (p.getD k x) y⟩
def NS (e:yy p=O d):∃l,p=.r l/\yx 8 (.r l)=O d:=by
 induction p using eh<;>first|exact⟨_,aa,e⟩|injection e
def bp.nf (r:bp v bv [p]):∃b,bv=[b]/\a1 v b p:=by cases r with|a c b=>cases b;exact⟨_,aa,c⟩
@[elab_as_elim]def bp.al (r:bp v bv [p])(k:∀a,a1 v a p->ts [a]):ts bv:=aL r.nf λa e h=>e▸k a h
def bp.an (r:bp v bv []):bv=[]:=by cases r;rfl
set_option tactic.hygienic true in
theorem En (T:d9 t)(R:bi t c v)(ajm:qb a8){C:aQ}{k:i5}{u:ae}{I:x}{S:n ae}{U:E}{Q:bg}(J:a1 v u I)(B:bp v S U)
 (ajn:∀f,k≠.d f)(h:jq t.P C k I U c Q):bL t.a a8 (lD k.u (u::S)) (dP t v Q) cb v.c:=by
 induction k using i5.casesOn with
 |d f=>exact b6 aa (ajn _)
 |i=>
  obtain⟨N,rfl,h⟩:=ti h;refine aL J.an ?_;rintro p rfl e;obtain⟨K,s,h⟩:=tj h;obtain⟨z,rfl,g⟩:=nf h;refine ms g λg q=>?_;refine aL B.nf ?_;rintro V rfl D;refine gG (R.y s e) λj w d F A r=>?_;exact sF ail ⟨_,d,aa⟩ PySem.F.entry_list_append (PySem.F.args_list_append_2 _ _) (list_append p.1 j w _ (by rw[A];exact jt r))
   ⟨d,vT R s e d (by simpa using F.i (bp.ew D)) (by rw[a6];exact g) .C q⟩
 |a=>
  obtain⟨N,rfl,h⟩:=ti h;refine aL J.an ?_;rintro p rfl e;obtain⟨K,s,h⟩:=tj h;obtain⟨z,rfl,g⟩:=nf h;refine d4 g λm L g=>ms g λW q=>?_;refine aL B.nf ?_;rintro V rfl D;refine gG (R.y s e) λj w d F A r=>?_;refine ke (El R D L) ?_;rintro b G X rfl H Y ajA;have ajo:=kJ Y.e;have Z:¬(!j.isEmpty&&uV (j.size+G.size))=true:=by have:de=1000000:=aa;rw[(by simp[uV,pP];lia:Builtin.List.listTooLong (j.size+G.size)=false)];simp
  have CS:j.size+G.size<=pP+1:=by rw[A,ajo];exact j8 (jt W)
  have OL:=vT (Q:=Q) (f:= λI=>I++G) R s e d (by simpa using F.i Y) (by rw[a6];exact W) .C q;rcases H with H|H
  ·exact sF Ki ⟨_,d,aa⟩ ain (aio _ _) (AutoSeq1.list_extend_list_list_0 p.1 j w b G X Z (by rw[A];exact jt r) CS) ⟨d,H,OL⟩
  ·exact sF Ki ⟨_,d,aa⟩ ain (aio _ _) (AutoSeq1.list_extend_list_tuple_0 p.1 j w b G X Z (by rw[A];exact jt r) CS) ⟨d,H,OL⟩
 |s=>
  obtain⟨N,rfl,h⟩:=ti h;refine aL J.an ?_;rintro p rfl e;obtain⟨K,s,h⟩:=tj h;refine bd (tk h) ?_;rintro rfl g;refine d4 g λz ajp q=>?_;obtain rfl:=B.an;refine gG (R.y s e) λj w d F A r=>aL (F.getLast ajp) λy ajq ajr=>?_;exact sF aim ⟨_,d,aa⟩ PySem.F.entry_list_pop (PySem.F.args_list_pop_1 _) (MeetsSeq.list_pop_last p.1 j w y ajq (by rw[A];exact jt r))
   ⟨d,vT R s e d F.s (by rw[List.length_dropLast];exact aU (Nat.sub_le _ _) r) ajr q⟩
 |b=>
  induction I using eh<;>first|exact h.elim|skip
  case c N=>
   refine aL J.an ?_;rintro p rfl e;refine d4 h λo ajl h=>?_;induction o using hf<;>first|exact h.elim|skip
   case h K=>exact dU (R.e _ _ _ e ajl) λajs P M r=>Em R (qc T R e) P M B h
   case c K=>
    refine gG (R.e _ _ _ e ajl) ?_;rintro ajt ajB d M rfl r;induction B using sM with
    |l=>exact h.elim
    |a D aju=>obtain⟨z,rfl,g⟩:=nf h;refine aL aju.nf ?_;rintro V rfl ajv;refine d4 g λm L g=>gj g λajw q=>?_;refine aL (NS L) ?_;rintro ajC rfl L;refine ke D.aw ?_;rintro b j w rfl H ajx ajx;exact NJ (qc T R e) (ck (.lt (.b .a (.y 50)) .e) (.lt (.b .a (.y 100)) .e) ajm) d M (Ee 8 D L) (by simpa using ajw:m∉ajt.toList.map (·.hash)) λajD=>e6 R ajv q
  case h N=>obtain rfl:=J.aN;refine d4 h λK ajy h=>?_;obtain⟨ajz,ajs,P,M,r⟩:=T.dictAt R ajy;exact Em R ajz P M B h
end
theorem NT (r:bp v bv k)(e:mq k=O au):IntsAre bv au:=by
 induction k generalizing bv au with
 |nil=>rw[r.C];exact aY e▸.nil
 |cons c d f=>
  refine r.y λh h a b=>?_;replace e:c.D ab (i:= λi=>(mq d).map (i::·))=O au:=e;induction c using eh<;>first|(injection e;done)|skip
  exact aL (h3.mp e) λm g q=>a.K λt=>q▸.cons _ _ (f b g)
def bp.K (r:IntsAre bv au):bp v bv (au.map .e):=by
 induction r with
 |nil=>exact .l
 |cons b t _ c=>exact .a (.e b t) c
theorem NU:∀{l m:bk},l.Perm m->l.Pairwise (·<=·)->m.Pairwise (·<=·)->l=m:=by
 intro l;induction l with
 |nil=>exactλ{m} p _ _=>List.Perm.nil_eq p
 |cons x r f=>
  intro m p a b;induction m using cv with
  |nil=>exact b6 p.symm.nil_eq (by simp)
  |cons y t=>
   rw[sN]at a b;have c:x∈y::t:=p.subset (db ..);have d:y∈x::r:=p.symm.subset (db ..);have e:x=y:=by
    refine gQ (fw.mp c) (λe=>e) λc=>?_
    ·exact gQ (fw.mp d) (λe=>e.symm) λd=>lA (a.1 y d) (b.1 x c)
   subst e;rw[f (List.Perm.cons_inv p) a.2 b.2]
theorem Eo (p:cV.Perm au)(h:cV.Pairwise (·<=·)):cV=kj au:=NU (p.trans (u3 au _).symm) h ((Cd (le:= λ(a b:m)=>an (a<=b)) (λa b c d e=>by simp at*;exact hA [] [_,_,_] (.a .a .e) (.a .a .l) (.a .l .e) d e) (λa b=>by simp;exact jk [] [_,_] (.K (.a .a .e) (.a .e .a))) au).imp λh=>dT h)
def NV (p:m×m)(r:aO):rJ (p::r)=((match r with|[]=>af|q::_=>an (p.1<q.1))&&rJ r):=aa
theorem NW:∀{l:aO},rJ l=af->(l.map (·.1)).Pairwise (·<·):=by
 intro l;induction l with
 |nil=>exactλa=>.nil
 |cons p r a=>
  intro h;rw[NV,fu]at h;have a:=a h.2;refine sN.mpr ⟨λy b=>?_,a⟩;induction r using cv with
  |nil=>cases b
  |cons q t=>
   have c:p.1<q.1:=dT h.1;rw[oz,sN]at a;rcases fw.mp b with rfl|b
   ·exact c
   ·exact Ka c (a.1 y b)
def gh.W (a:lg v.c.heap ap.heap):gh v ⟨ap,v.a⟩:=⟨a,λb b e=>e⟩
def Ep:cM.objs.size<=(sortedHeap cM ak bv dp).objs.size:=by rw[u4,sO,sO,u4];exact cZ _ 2
theorem NX (T:d9 t)(G:a8.handled=ab)(R:bi t c v){i:j}{p:ac×ac}{l:b2}{Q:bg} (z:v.a[i]?=O p) (H:c[i]?=O (.h l)) (I:L l<64)
 (q:∀r:bk,r.Perm (l.map (·.1))->r.Pairwise (·<=·)->mk c (.y (r.map .e)) Q):
 bL t.a a8 (lD (.builtin "sorted") [.ref p.1]) (dP t v Q) cb v.c:=by
 refine dU (R.e _ _ _ z H) λs J B K=>?_;have u:L s<64:=by rw[B.e];exact I
 refine bu J.dictAt λM N=>aip kind_sorted plain_sorted entry_sorted (args_sorted1 _) ?_;unfold Builtin.«sorted»;refine bh (m:=checkCount "sorted" 1 1 _) (cX (bh (nX (kdu_collect (A:=a8.in1) (kdl_dict (knd:=lE t.d t.c) (kvs:=s) (ep:=M) (qc T R z)) G N (hy (iT u ⋯)) λf W d P C D=>?_))));have w:L d.toList=L s:=by rw[Ce];exact C.1
 have S:IntsAre d.toList (l.map (·.1)):=by
  rw[<-B.i];have U:∀(g:n ae)(a:bk),L g=L a->(∀(i:j)(b:ae)(k:m),g[i]?=O b->a[i]?=O k->∃E,b=Value.int k E)->IntsAre g a:=by
   intro g;induction g with
   |nil=>intro a e h;induction a using cv with|nil=>exact .nil|cons _ _=>injection e
   |cons b g x=>
    intro a e h;induction a using cv with
    |nil=>injection e
    |cons k a=>refine bu (h 0 b k aa aa) ?_;rintro E rfl;exact .cons _ _ (x a (by simpa using e) λi b k y o=>h (i+1) b k (by simpa using y) (by simpa using o))
  refine U _ _ (by rw[w,cj]) λi b k y o=>gq (C.2 i b (by rw[<-Array.getElem?_toList];exact y)) λx x h F=>?_;rw[h4,h]at o;replace o:=aY o;subst o;induction b using Value.casesOn<;>first|cases F|skip
  exact⟨_,by rw[(dT F)]⟩
 refine bh (Kj ?_ (by rw[w];exact hy (iT u ⋯)));have a:(f.push (gB "list" d.toList.toArray 0)).get? f.objs.size=O (gB "list" d.toList.toArray 0):=ji _ aa;have g:(f.push (gB "list" d.toList.toArray 0)).objs.size=f.objs.size+1:=sO _ _;refine bh (eE (u1 slot_list_sort ⟨_,a,aa⟩ entry_list_sort (list_sort_tree a S (by rw[w];exact u) λk r E x F=>⟨_,aa,cX ⟨_,aa,bu (sortedHeap_at (vs:=d.toList) (out:=k) a) λe U=>?_⟩⟩) (args_list_sort _)));have V:∀b o,v.c.heap.get? b=O o->(sortedHeap (f.push (gB "list" d.toList.toArray 0)) f.objs.size d.toList k).get? b=O o:= λb o e=>by have h:=P b o e;have y:=gz h;rw[sortedHeap_old (jH y) (by rw[g];exact rd y)];exact kD _ h
 refine p' (f:=e) R D V (aU (aU D (by rw[g];exact fJ _)) Ep) U (bp.K E) ?_ (q r x F);rw[cj,x.length_eq,cj];exact K
def NY:cM.objs.size<=(sortedAll cM bv dp).objs.size:=by refine aU ?_ Ep;rw[sO,u4,sO];exact cZ _ 2
def Er (h:z<f):(re (jI f)).getD z 0=z:=by simp[Array.getD,h]
theorem NZ (c:∀(i:j)(C:bm->b1->Prop),1<=i->i<f->C aN ap->o6 i (i-1) C ap){Q:j->b1->Prop}(q:Q f ap):
 ∀(a m:j),1<=m->m+a=f->(kas_asc (re (jI f)) a m).kasWp o6 Q ap:=by
 intro a;induction a with
 |zero=>intro m b e;have e:m=f:=e;subst e;exact q
 |succ a d=>intro m b e;refine(?_:o6 ((re (jI f)).getD m 0) ((re (jI f)).getD (m-1) 0) _ ap);rw[Er (ex (.lt .a .e) (.l (.b .a (.b .l .r)) .e) e),Er (kc (.lt .a .e) (.l (.b .l (.b .s .r)) .e) (.l (.b .a .r) .l) e (dc (b)))];refine c m _ b (ex (.lt .a .e) (.l (.b .a (.b .l .r)) .e) e) (?_:KasT.kasWp o6 (if aN=af then KasT.ret m else kas_asc (jI f).toArray a (m+1)) Q ap);rw[ce ⋯];exact d (m+1) (em (.le .r (.b .a .r))) (m6 [_,_,_] [] (.b (.b .a .r) .e) .l (.l (.b .a (.b .e .r)) .l) cc [1,-1] e)
theorem N0 (a:2<=f)(b:∀(i:j)(C:bm->b1->Prop),1<=i->i<f->C aN ap->o6 i (i-1) C ap){G:dC j->b1->Prop}(q:G (re (jI f)) ap):
 (kas_sort f).kasWp o6 G ap:=by
 rw[KasT.kasWp_bind,KasT.kasWp_bind];refine NZ b ?_ (f-1) 1 (br _) (k6 (.b .r .a) .e (.l (.b .a .r) .e) cc [1,-1] (dc (aU ⋯ a)));rw[cP (by simp)];refine(?_:KasT.kasWp o6 (if f<f then kas_bin (f-max f 1) (re (jI f)) (max f 1)else KasT.ret (re (jI f))) G ap);rw[ce (pM _)];exact q
theorem Es (r:a1 v bE (.r [.e d,.e o])):∃a n t u,bE=.ref a/\v.c.heap.get? a=O {cls:=.type "tuple",data:=.seq #[.int d t,.int o u] n}:=by refine ke r.aw ?_;rintro a e n rfl b c j;obtain⟨l⟩:=e;have c:bp v l [.e d,.e o]:=c;revert b;refine c.y λbE eo f g=>g.y λj j h i=>f.K λt=>h.K λu b=>⟨a,n,t,u,aa,i.C▸b⟩
theorem N1:∀{a:bk},mq k=O a->k=a.map .e:=by
 induction k with
 |nil=>intro a e;exact aY e▸aa
 |cons b r c=>
  intro a e;replace e:b.D ab (i:= λi=>(mq r).map (i::·))=O a:=e;have q:∃i,b=.e i:=by induction b using eh<;>first|exact⟨_,aa⟩|injection e
  obtain⟨i,rfl⟩:=q;exact aL (h3.mp e) λm d q=>q▸c d▸aa
theorem N2 (e:vG p=O cu):p=.r [.e cu.1,.e cu.2]:=by
 induction p using eh<;>first|(injection e;done)|skip
 replace e:(match mq l with|some l=>(match l with|[i,j]=>O (i,j)|_=>ab)|none=>ab)=O cu:=e;cases q:mq l with
 |none=>rw[q]at e;injection e
 |some a=>rw[q]at e;rw[N1 q];obtain _|⟨i,_|⟨j,_|⟨eo,z⟩⟩⟩:=a<;>first|(injection e;done)|exact aY e▸aa
theorem yM (e:lP (p::k)=O aj):∃i j b,p=.r [.e i,.e j]/\lP k=O b/\aj=(i,j)::b:=by
 have e:((vG p).bind λa=>(lP k).map (a::·))=O aj:=e;cases q:vG p with
 |none=>rw[q]at e;injection e
 |some a=>rw[q]at e;refine aL (h3.mp (show(lP k).map (a::·)=O aj from e)) ?_;rintro b c rfl;exact⟨a.1,a.2,b,N2 q,c,aa⟩
theorem Et (r:bp v bv k)(e:lP k=O aj) (h:aj[f]?=O cu):∃a c t u,bv[f]?=O (.ref a)/\v.c.heap.get? a=O {cls:=.type "tuple",data:=.seq #[.int cu.1 t,.int cu.2 u] c}:=by
 induction k generalizing bv aj f with
 |nil=>replace e:=aY e;subst e;simp at h
 |cons x k d=>
  refine r.y λb b g i=>?_
  ·refine i0 (yM e) ?_;rintro a b b rfl l rfl;induction f using dx with
   |zero=>simp at h;subst h;refine eO (Es g) λo c p=>gq p ?_;rintro t u rfl q;exact⟨o,c,t,u,aa,q⟩
   |succ f=>simpa using d (f:=f) i l (by simpa using h)
def N3 (e:lP k=O aj):L aj=L k:=by
 induction k generalizing aj with
 |nil=>replace e:=aY e;subst e;rfl
 |cons x r c=>refine i0 (yM e) ?_;rintro a b a rfl d rfl;simp[c d]
theorem N4 (r:bp v bv k)(e:lP k=O aj):∃d,KatTups v.c.heap bv d/\L d=L bv/\∀f∈d,∃i t,f=Value.int i t:=by
 induction k generalizing bv aj with
 |nil=>rw[r.C];exact⟨[],KatTups.nil,aa,λa c=>by cases c⟩
 |cons x k g=>
  refine r.y λf b c h=>?_
  ·refine i0 (yM e) ?_;rintro a b b rfl i rfl;refine eO (Es c) λb b j=>gq j ?_;rintro t u rfl l;refine dU (g h i) λd m o p=>⟨.int a t::d,KatTups.cons l aa aa aa m,by simp[o],λf c=>?_⟩;rcases fw.mp c with rfl|c
   ·exact⟨a,t,aa⟩
   ·exact p f c
theorem N5 {P:Fin->b1->Prop}(d:ap.heap.get? ak=O (gB "list" bv.toArray f)){w:n (ac×ac)}(l:bp ⟨ap,w⟩ bv k)(m:lP k=O aj)(D:(aj.map (·.1)).Pairwise (·<·))(r:L bv<64)
 (h:P (.done (.ret .none)) {ap with heap:=sortedHeap ap.heap ak bv bv.toArray}):
 bL (oy mv eo) a8 (Builtin.«list.sort» ⟨[.ref ak],[]⟩) P cb ap:=by
 rw[list_sort_plain];have F:ak<ap.heap.objs.size:=gz d;refine bh (listItems_at d aa (bh (Kk d aa ?_ (by rw[List.size_toArray,u5];exact aU (hy r) ⋯) (fK _))));obtain⟨z,H⟩:∃z,(ap.heap.update ak (j9 λa=>#[])).get? ak=O (gB "list" #[] z):=⟨_,get?_update_seq d (λa=>#[])⟩;refine bh (seqEpoch_at H aa (bh (wpAny_newTuple (bh (Kj (eE ?_) (fK _))) (by show L bv<=_;rw[u5];exact aU (hy r) ⋯))));have u:(((ap.heap.update ak (j9 λa=>#[])).push (gB "tuple" bv.toArray 0)).push (gB "list" #[] 0)).get? ak=O (gB "list" #[] z):=by rw[Heap.get?_push_ne _ _ _ (by rw[sO,u4];exact jH (rd F)),Heap.get?_push_ne _ _ _ (by rw[u4];exact jH F)];exact H
 have S:lg ap.heap (((ap.heap.update ak (j9 λa=>#[])).push (gB "tuple" bv.toArray 0)).push (gB "list" #[] 0)):= λb o e t a=>kD _ (kD _ ((aiq _ _ _ _ (λq=>by subst q;rw[d]at e;replace e:=aY e;subst e;simp at t)).trans e));have A:bp ⟨{ap with heap:=((ap.heap.update ak (j9 λa=>#[])).push (gB "tuple" bv.toArray 0)).push (gB "list" #[] 0)},w⟩ bv k:=l.u (v:=⟨ap,w⟩) (gh.W S);refine(?_:bL (oy mv eo) a8 _ P cb {ap with heap:=((ap.heap.update ak (j9 λa=>#[])).push (gB "tuple" bv.toArray 0)).push (gB "list" #[] 0)});dsimp only;have I:bv.toArray.size=L bv:=by simp
 by_cases c:bv.toArray.size<2
 ·rw[cP c,cP c];refine bh (cX ?_);rw[StateT.run_pure];refine bh (cX ?_);dsimp only;refine bh (seqEpoch_at u aa ?_);have p:Array.map (·.2) (arrOf (SortSt.mk' general' (bv.toArray.zip bv.toArray) #[] 7 ab))=bv.toArray:=by refine(?_:Array.map (·.2) (bv.toArray.zip bv.toArray)=_);apply Array.ext (by simp);intro i g c;simp
  rw[p];refine bh (Kk u aa ?_ (fK _) (by rw[I,u5];exact ec (.le .a (.b (.y 16777216) .r)) (.lt .a .W) c));simp only[bne_self_eq_false,u2,nF];exact cX h
 ·rw[ce c,ce c];have J:2<=L bv:=ec (.le .W .a) (.b (.lt .a .W)) c;refine dU (N4 A m) λb U V W=>bh (kat_kind (T:=.type "int") (s:={ap with heap:=((ap.heap.update ak (j9 λa=>#[])).push (gB "tuple" bv.toArray 0)).push (gB "list" #[] 0)}) U (by rw[V];exact ec (.lt .K .a) (.b (.lt .a .W)) c) (λv l=>by refine eO (W v l) ?_;rintro i b rfl;exact Looks.of_pure aa) aa ?_);rw[(by decide:(Value.type "int" !=Value.type "tuple")=true)];refine bh (hx (kat_run (E:=cb) (vs:=bv) (ks:=bv) (κ:=tuples' af) (Q:= λq hp=>hp={ap with heap:=((ap.heap.update ak (j9 λa=>#[])).push (gB "tuple" bv.toArray 0)).push (gB "list" #[] 0)}/\failedOf q=ab/\(arrOf q).map (·.2)=bv.toArray)
   (G:= λp hp=>p=re (jI (L bv))/\hp={ap with heap:=((ap.heap.update ak (j9 λa=>#[])).push (gB "tuple" bv.toArray 0)).push (gB "list" #[] 0)}) aa J r ?_ (N0 J (λi C g K X=>?_) ⟨aa,aa⟩)) ?_ λa a e=>e)
  ·intro p q hp a y B x;refine bd x ?_;clear x;rintro rfl rfl;refine⟨aa,B,?_⟩;rw[kat_snds aa y];congr 1;apply List.ext_getElem (by simp);intro i g c;simp at g c⊢;simp[c]
  ·
   have C:L aj=L bv:=by rw[N3 m,<-l.e]
   have M:i<L aj:=g6 (.lt .a .e) (.lt .a .l) (.l .e .l) [1,1,-1] K C;have N:i-1<L aj:=gE [_,_,_,_] [] (.lt .a .e) (.lt .l .s) (.l .e .s) (.l (.b .a .r) .l) [1,1,-1,1] K C (dc (g));refine eO (Et (f:=i) A m (eM M)) λx b B=>gq B λb b Y Z=>eO (Et (f:=i-1) A m (eM N)) λy b B=>gq B λb b CS OL=>?_;have R:aj[i-1].1<aj[i].1:=by rw[air]at D;have:=D (i-1) i (by simpa using N) (by simpa using M) (ck (.lt .a .e) (.l (.b .a .r) .e) (dc (g)));rw[List.getElem_map,List.getElem_map]at this;exact this
   delta kas_ask;rw[xQ,Y,xQ,CS];refine kat_lt Z aa OL aa (kat_cons (wpAny_eqBool_int ?_));rw[(by simp;exact u6 R:(aj[i].1==aj[i-1].1)=false)];refine kat_no (oneLt_int ?_);rw[cL (lz.mpr (mc R))];exact X
  ·intro C hp x;obtain⟨⟨⟩,q⟩:=C;refine c9 x ?_;clear x;rintro rfl y B;dsimp only at y B⊢;refine bh (seqEpoch_at u aa ?_);rw[B];refine bh (Kk u aa ?_ (fK _) (by rw[I,u5];exact ec (.le .a (.b (.y 16777216) .r)) (.lt .a (.y 64)) r));rw[y];simp only[bne_self_eq_false,u2,nF];exact cX h
theorem N6 (R:bi t c v){i:j}{p:ac×ac}{l:E}{g:aO}{Q:bg} (r:v.a[i]?=O p) (s:c[i]?=O (.y l)) (u:lP l=O g)(w:L l<64)(y:(g.map (·.1)).Pairwise (·<·))(q:mk c (.y l) Q):
 bL t.a a8 (lD (.builtin "sorted") [.ref p.1]) (dP t v Q) cb v.c:=by
 refine gG (R.y s r) λa k z d k A=>?_;have f:L a.toList<64:=by rw[d.e];exact w
 refine aip kind_sorted plain_sorted entry_sorted (args_sorted1 _) ?_;unfold Builtin.«sorted»;refine bh (m:=checkCount "sorted" 1 1 _) (cX (bh (collect_list (vs:=a.toList) ⟨_,z,aa,_,aa⟩ (bh (Kj ?_ (by rw[u5];exact aU (hy f) ⋯))) (by rw[u5];exact aU (hy f) ⋯))));have h:((v.c.heap.push (gB "list" #[] 0)).update v.c.heap.objs.size (j9 (·++a.toList.toArray))).objs.size=v.c.heap.objs.size+1:=by rw[u4,sO]
 have n:(((v.c.heap.push (gB "list" #[] 0)).update v.c.heap.objs.size (j9 (·++a.toList.toArray))).push (gB "list" a.toList.toArray 0)).get? (v.c.heap.objs.size+1)=O (gB "list" a.toList.toArray 0):=by rw[<-h];exact ji _ aa
 have B:∀b o,v.c.heap.get? b=O o->(((v.c.heap.push (gB "list" #[] 0)).update v.c.heap.objs.size (j9 (·++a.toList.toArray))).push (gB "list" a.toList.toArray 0)).get? b=O o:= λb o e=>by refine kD _ ((aiq _ _ _ _ (jH (gz e))).trans (kD _ e))
 rw[h];refine bh (eE (u1 slot_list_sort ⟨_,n,aa⟩ entry_list_sort ?body (args_list_sort _)))
 case body=>
 exact N5 (ap:={v.c with heap:=((v.c.heap.push (gB "list" #[] 0)).update v.c.heap.objs.size (j9 (·++a.toList.toArray))).push (gB "list" a.toList.toArray 0)}) n (w:=v.a) (d.u (gh.W (yq B))) u y f ⟨_,aa,cX ⟨_,aa,bu (sortedAll_at v.c.heap a.toList a.toList.toArray) λe C=>p' (f:=e) R (fJ _) (λb x e=>sortedAll_old e) NY C d A q⟩⟩
noncomputable def oV.u (n:oV):Value:=match n with
 |.W=>.builtin "len"|.a=>.type "tuple"|.y=>.type "list"|.f=>.type "str"|.b=>.builtin "sorted"
theorem Eu (R:bi t c v){a:ac}{i:dC ae}{k:j}{l:E}{Q:bg}(g:v.c.heap.get? a=O {cls:=.type "list",data:=.seq i k}\/v.c.heap.get? a=O {cls:=.type "tuple",data:=.seq i k})(n:bp v i.toList l)(m:L l<=de)(q:mk c (.y l) Q):
 bL t.a a8 (lD (.type "list") [.ref a]) (dP t v Q) cb v.c:=by
 have o:=kJ n.e;refine nX ?_;have p:∀(d:fS)(f:j),(∀b e,v.c.heap.get? b=O e->d.get? b=O e)->d.get? v.c.heap.objs.size=O {cls:=.type "list",data:=.seq i f}->v.c.heap.objs.size<=d.objs.size->dP t v Q (.ref v.c.heap.objs.size) {v.c with heap:=d}:=
  λd f b e h=>p' R (br _) b h e n m q
 rcases g with g|g
 ·exact call_list_seq a (.inl aa) g aa aa (λd f b e h=>p d f b e h) (by rw[o];exact jt m)
 ·exact call_list_seq a (.inr aa) g aa aa (λd f b e h=>p d f b e h) (by rw[o];exact jt m)
theorem N7 (T:d9 t)(P:a8.handled=ab)(R:bi t c v){F:oV}{J:n ae}{K:E}{Q:bg}(S:bp v J K)(h:yC F K c Q):
 bL t.a a8 (lD F.u J) (dP t v Q) cb v.c:=by
 obtain⟨r,rfl,h⟩:=nf h;refine S.al λu z=>?_;induction F using oV.casesOn with
 |W=>
  induction r using eh<;>first|exact h.elim|skip
  case r l=>refine z.ab λA s k d j g=>?_;have B:=kJ j.e;refine PyProof.Rows.len_tuple ⟨_,d,aa,_,aa⟩ (by rw[B];exact o3 g) (e6 R ?_ h);rw[B];exact .e _ _
  case c A=>
   refine z.X λp m=>d4 h λo w h=>?_;induction o using hf<;>first|exact h.elim|skip
   case y l=>refine gG (R.y w m) λs k d j B g=>call_len_list ⟨_,d,aa,_,aa⟩ (by rw[B];exact o3 g) (e6 R ?_ h);rw[B];exact .e _ _
   case h l=>refine dU (R.e _ _ _ m w) λajr U M g=>call_len_dict (qc T R m) U (by rw[M.e];exact o3 g) (e6 R ?_ h);rw[M.e];exact .e _ _
 |a=>
  refine d4 h λl V h=>?_;refine ke (El R z V) ?_;rintro A s k rfl d j g;rcases d with d|d
  ·refine nX (call_tuple_list ⟨_,d,aa,_,aa⟩ (λX Y G=>?_) (by rw[(kJ j.e)];exact jt g));have Z:∀b r,v.c.heap.get? b=O r->(X.push {cls:=.type "tuple",data:=.seq s}).get? b=O r:= λb r e=>kD _ (Y b r e);exact yF (f:=0) R Z G (ji _ aa) j g h
  ·exact call_tuple_tup ⟨_,d,aa,_,aa⟩ (e6 R (.r d j g) h)
 |y=>
  induction r using eh<;>first|exact h.elim|skip
  case r l=>exact z.ab λA s k d j g=>Eu R (.inr d) j g h
  case c A=>refine z.X λp m=>d4 h λo w h=>?_;obtain⟨l,rfl,h⟩:=DS h;exact gG (R.y w m) λs k d j B g=>Eu R (.inl d) j g h
 |f=>exact z.y h λi ajs h=>gj h λD q=>_root_.PySem.P.str_of_int (kE (log2_lt _ 70 ⋯ (g4 (ea D) ⋯)) ⋯) (e6 R (.f _ _) q)
 |b=>
  refine z.af h λA p m h=>d4 h λo w h=>?_;induction o using hf<;>first|exact h.elim|skip
  case y l=>
   refine gj h λC h=>?_;have C:L l<64:=by simpa [sH]using C
   cases H:mq l with
   |some CS=>rw[H]at h;refine gG (R.y w m) λs k d j ajt g=>?_;have N:=NT j H;refine nX (sorted_ints (vs:=s.toList) ⟨_,d,aa,_,aa⟩ N (by rw[j.e];exact C) λOL ajl I ajm ajn G=>bu (sortedAll_at v.c.heap s.toList OL) λe ajo=>?_);rw[Eo ajm ajn]at I;refine p' (f:=e) R (fJ _) (λb r e=>sortedAll_old e) G ajo (bp.K I) ?_ h;have:=I.length;simp only[cj];exact lI [_,_,_,_,_] [] (.le .a .e) (.le .l .e) (.l .s .X) (.l .a .X) (.l .s .l) [1,1,-1,1,1] g N.length ((u3 CS λA b=>an (A<=b)).length_eq) j.e
   |none=>rw[H]at h;exact d4 h λaju ajp h=>gj h λD q=>N6 R m w ajp C (NW D) q
  case h l=>refine gj h λC q=>?_;exact NX T P R m w (by simpa [sH]using C) λajl D ajq=>by rw[Eo D ajq];exact q
def fU (b:cU)(a:ac):Prop:=a=b.locals\/∃n,b.cells.lookup n=O a
def ai5 (g:bl)(v:ae)(x:be):Prop:=match x with
 |some x=>a1 g v x
 |none=>fZ
def mw (g:bl)(v:Q ae)(x:be):Prop:=match x with
 |none=>fZ
 |some x=>match v with
  |some v=>a1 g v x
  |none=>c8
theorem mw.u (k:gh v bX){a:Q ae}{x:be}(r:mw v a x):mw bX a x:=by
 induction x using gA with
 |none=>trivial
 |some x=>induction a using gA with
  |none=>exact r
  |some a=>exact a1.u k r
def tt (a:cU)(g:bl)(n:aH)(b:be):Prop:=
 (a.kindOf n=O .local/\∃m,g.c.heap.Ns a.locals m/\mw g (m n) b)\/
 (a.kindOf n=O .cell/\∃c v,a.cells.lookup n=O c/\g.c.heap.IsCell c v/\mw g v b)
structure dV (c:cQ)(j:cU)(k:n aH)(l:aS)(g:bl):Prop where
 f:j.scope.kind=.function
 W:L l=L k
 b:∀i e,k[i]?=O e->tt j g e (im l i)
 r:k.Nodup
 d:∀a,fU j a->¬T g a/\c.b.heap.objs.size<=a/\(∃o,g.c.heap.get? a=O o)/\∀o,g.c.heap.get? a=O o->¬∃q e,o.data=.seq q e
 apart:∀e c,j.cells.lookup e=O c->c≠j.locals
 h:∀e c m p,j.cells.lookup e=O c->j.cells.lookup m=O p->c=p->e=m
section
variable{aD:cU}{M:be}{cO:n aH}{ax:aS}
theorem tt.u (b:∀a,fU aD a->∀o,v.c.heap.get? a=O o->bX.c.heap.get? a=O o)(k:gh v bX):tt aD v a9 M->tt aD bX a9 M:=
 λh=>h.imp (λh=>h.imp id λh=>h.imp λm h=>⟨h.1.imp λo h=>h.imp λc h=>h.imp λc h=>⟨b _ (.inl aa) _ h.1,h.2⟩,mw.u k h.2⟩)
  λh=>h.imp id λh=>h.imp λt h=>h.imp λc h=>⟨h.1,h.2.1.imp λo q=>⟨b _ (.inr ⟨_,h.1⟩) _ q.1,q.2⟩,mw.u k h.2.2⟩
theorem dV.e (F:dV t aD cO ax v)(S:cA d3 v bX):dV t aD cO ax bX:=by have f:∀a,fU aD a->∀o,v.c.heap.get? a=O o->bX.c.heap.get? a=O o:= λa b o e=>S.u a o e (F.d a b).1 λq=>q;refine⟨F.f,F.W,λi n e=>(F.b i n e).u f S.togh,F.r,λa b=>?_,F.apart,F.h⟩;refine lL (F.d a b) ?_;intro g h j k;refine bu j λo d=>?_;have e:=f a b o d;exact⟨λl=>g (S.c a (gz d) l),h,⟨o,e⟩,λm c=>by rw[e]at c;replace c:=aY c;subst c;exact k _ d⟩
def Ev (h:f<L ax):im (kh ax f p) f=O p:=by
 induction ax generalizing f with
 |nil=>simp at h
 |cons _ r a=>induction f using dx with
  |zero=>rfl
  |succ f=>exact a (by simpa using h)
theorem Ew (h:z≠f):im (kh ax f p) z=im ax z:=by
 induction ax generalizing f z with
 |nil=>rfl
 |cons _ r a=>induction f using dx with
  |zero=>induction z using dx with
   |zero=>exact b6 aa h
   |succ z=>rfl
  |succ f=>induction z using dx with
   |zero=>rfl
   |succ z=>exact a λe=>h (cp (·+1) e)
def N8:L (kh ax f p)=L ax:=by
 induction ax generalizing f with
 |nil=>rfl
 |cons _ r a=>induction f using dx with
  |zero=>rfl
  |succ f=>exact cp (·+1) a
theorem N9 (h:f≠z):kh (kh ax f p) z U=kh (kh ax z U) f p:=by
 induction ax generalizing f z with
 |nil=>rfl
 |cons _ r a=>induction f using dx with
  |zero=>induction z using dx with
   |zero=>exact b6 aa h
   |succ z=>rfl
  |succ f=>induction z using dx with
   |zero=>rfl
   |succ z=>exact cp (_::·) (a λe=>h (cp (·+1) e))
inductive qe (t:cQ)(X:ac->Prop)(aD:cU)(cO:n aH)(v:bl)(Q:aS->bI)(u:mX)(ap:b1):Prop
 |mk (b:aS)(bb:Z)(a:n (ac×ac))(F:dV t aD cO b ⟨ap,a⟩)(R:bi t bb ⟨ap,a⟩)(S:cA X v ⟨ap,a⟩)(q:Q b bb)
def vU (b:cU)(X:ac->Prop)(c:bm):Prop:=X b.locals/\(c=af->∀n a,b.cells.lookup n=O a->X a)
def dV.lt (F:dV t aD cO ax v){i:j}{n:aH} (e:cO[i]?=O n):i<L ax:=by rw[F.W];exact(cs.mp e).1
theorem tu (W:vU aD hm bs)(F:dV t aD cO ax v)(R:bi t c v){i:j}{n:aH}{G:ae}{H:x}{Q:aS->bI} (e:cO[i]?=O n) (Y:a1 v G H)(q:Q (kh ax i H) c)(ajo:aD.kindOf n=O .cell->bs=af):
 bL t.a a8 (storeName aD n G) (qe t hm aD cO v Q) cb v.c:=by
 have Z:∀g d,cO[g]?=O d->d=n->g=i:= λg d CS h=>by subst h;rw[cs]at e CS;exact bu e λOL a=>bu CS λajl b=>(List.getElem_inj F.r).mp (b.trans a.symm)
 have ajm:∀(a:ac)(ap:b1),fU aD a->hm a->uT a v.c.heap ap.heap->(∀o,ap.heap.get? a=O o->¬∃I n,o.data=.seq I n)->(∃o,ap.heap.get? a=O o)->ap.gens=v.c.gens->ap.os=v.c.os->
  (gh v ⟨ap,v.a⟩->∀g d,cO[g]?=O d->tt aD ⟨ap,v.a⟩ d (im (kh ax i H) g))->qe t hm aD cO v Q ⟨⟩ ap:=by
  intro a ap s u k w y z B C;refine lL (F.d a s) λOL ajl N D=>bd (R.D (ap:=ap) OL ajl D (SameBut.ext k) (he k.1.symm) z B) λE l=>⟨_,c,v.a,⟨F.f,by rw[N8];exact F.W,C l.togh,F.r,λb K=>?_,F.apart,F.h⟩,E,l.ab λb q J=>q▸u,q⟩;refine lL (F.d b K) ?_;intro m r L M;refine bu L λo p=>?_;by_cases q:b=a
  ·subst q;exact⟨m,r,y,w⟩
  ·exact⟨m,r,⟨o,(k.2 b q).trans p⟩,λA f=>M A (by rw[<-k.2 b q];exact f)⟩
 rcases F.b i n e with⟨w,m,ajn,_⟩|⟨w,K,ajv,y,ajp,_⟩
 ·refine wpAny_storeName_local w ajn (λL M k=>i0 M λo ajv ajv p N J=>ajm aD.locals _ (.inl aa) W.1 k (λA f=>by have f:L.get? aD.locals=O A:=f;rw[p]at f;replace f:=aY f;subst f;intro ajq;refine eO ajq λI n z=>?_;rw[N]at z;injection z) ⟨o,p⟩ aa aa λr g d b=>?_) (by rw[F.f];rfl);by_cases l:d=n
  ·have:=Z g d b l;subst this l;refine .inl ⟨w,_,M,?_⟩;rw[Ev (F.lt e)];simp only[u0];exact a1.u r Y
  ·rw[Ew (λz=>l (by subst z;rw[e]at b;replace b:=aY b;subst b;rfl))];rcases F.b g d b with⟨s,P,S,u⟩|⟨s,B,T,C,⟨U,V,X⟩,u⟩
   ·refine .inl ⟨s,_,M,?_⟩;have:P d=m d:=by
     refine ke S λajv ajv ajv ajr ajs J ajt=>ke ajn λajv ajv ajv D E J aju=>?_;rw[ajr]at D;replace D:=aY D;subst D;rw[ajs]at E;injection E with E;subst E
     rw[<-ajt,<-aju]
    simp only[l,nF,<-this];exact mw.u r u
   ·exact .inr ⟨s,B,T,C,⟨U,(k.2 B (F.apart _ _ C)).trans V,X⟩,mw.u r u⟩
 ·refine wpAny_storeName_cell F.f w y ajp λL D k=>aL D λo p N=>ajm K _ (.inr ⟨_,y⟩) (W.2 (ajo w) _ _ y) k (λA f=>by have f:L.get? K=O A:=f;rw[p]at f;replace f:=aY f;subst f;intro E;refine eO E λI n z=>?_;rw[N]at z;injection z) ⟨o,p⟩ aa aa λr g d b=>?_;by_cases l:d=n
  ·have:=Z g d b l;subst this l;refine .inr ⟨w,K,O G,y,D,?_⟩;rw[Ev (F.lt e)];exact a1.u r Y
  ·rw[Ew (λz=>l (by subst z;rw[e]at b;replace b:=aY b;subst b;rfl))];rcases F.b g d b with⟨s,P,S,u⟩|⟨s,B,T,C,⟨U,V,X⟩,u⟩
   ·exact .inl ⟨s,P,S.sameBut k λz=>F.apart _ _ y z.symm,mw.u r u⟩
   ·exact .inr ⟨s,B,T,C,⟨U,(k.2 B λz=>l (F.h _ _ _ _ C y z)).trans V,X⟩,mw.u r u⟩
set_option genCtorIdx true in
inductive gs where
 |e (i:m)|c (a:ac)|d (a:ac)|r (l:bk)|A (b:oV)|f|e5
def tv (c:cQ)(G:aH->Q gs)(e f:ac):Prop:=∃b d,c.b.heap.Ns e b/\c.b.heap.Ns f d/\∀n v,G n=O v->match v with
 |.e i=>∃t,b n=O (.int i t)
 |.c a=>b n=O (.ref a)
 |.d a=>b n=O (.ref a)
 |.r l=>∃u,b n=O u/\a1 ⟨c.b,[]⟩ u (.r (l.map .e))
 |.A k=>b n=ab/\d n=O k.u
 |.f=>b n=ab/\d n=O (.builtin "isinstance")
 |.e5=>b n=ab/\d n=O (.type "range")
theorem N' (F:dV t aD cO ax v)(R:bi t c v){i:j}{n:aH}{g:b0}{d:x}{Q:bg} (e:cO[i]?=O n) (f:im ax i=O d)(q:Q d c)(h:(n==("__debug__":aH))=aN):
 bL t.a a8 (gn (.Name n g) aD) (dP t v Q) cb v.c:=by
 refine wpAny_Name ?_ h;rcases F.b i n e with⟨a,m,k,r⟩|⟨a,s,l,o,p,r⟩
 ·rw[f]at r;cases b:m n with
  |none=>rw[b]at r;exact r.elim
  |some u=>rw[b]at r;exact wpAny_loadName_local F.f a k b (e6 R r q)
 ·rw[f]at r;induction l using gA with
  |none=>exact r.elim
  |some u=>exact wpAny_loadName_cell F.f a o p (e6 R r q)
theorem nj {G:aH->Q gs}(R:bi t c v)(s:aD.scope.kind=.function)(K:tv t G aD.globals aD.builtins){n:aH}{d:gs}(w:aD.kindOf n=O .globalImplicit)(x:G n=O d){y:b0}(z:(n==("__debug__":aH))=aN)
 {q:ae->b1->Prop} (h:∀u,(match d with
  |.e i=>∃f,u=.int i f|.c a=>u=.ref a|.d a=>u=.ref a|.r l=>a1 v u (.r (l.map .e))|.A k=>u=k.u|.f=>u=.builtin "isinstance"|.e5=>u=.type "range")->q u v.c):
 bL t.a a8 (gn (.Name n y) aD) q cb v.c:=by
 refine d0 K λA B C D k=>?_;have b:v.c.heap.Ns aD.globals A:=nJ C λo g j m r=>⟨o,g,j,R.a _ _ m,r⟩;have p:v.c.heap.Ns aD.builtins B:=nJ D λo g j m r=>⟨o,g,j,R.a _ _ m,r⟩;have k:=k n d x;refine Name_function_global s w ?_ z;induction d using gs.casesOn with
 |e i=>exact bu k λf k=>Cf b k (h _ ⟨f,aa⟩)
 |c a=>exact Cf b k (h _ aa)
 |d a=>exact Cf b k (h _ aa)
 |r l=>exact aL k λu k r=>Cf b k (h _ (r.u R.an))
 |A t=>exact Kl b k.1 p k.2 (h _ aa)
 |f=>exact Kl b k.1 p k.2 (h _ aa)
 |e5=>exact Kl b k.1 p k.2 (h _ aa)
end
structure da where
 f:n (aH×h5)
 b:n aH
 h:aH->Q gs
 a:b0->j
 cells:bm
noncomputable def d5 (b:bm)(x:Q ar):Q ar:=match b with|true=>x|false=>ab
def fq (e:d5 bs fL=O bW):bs=af/\fL=O bW:=by
 induction bs using fD with
 |true=>exact⟨aa,e⟩
 |false=>injection e
def c6 (e:fL.bind f7=O mn):vA fL λa=>f7 a=O mn:=by
 induction fL using gA with
 |none=>injection e
 |some a=>exact⟨a,aa,e⟩
def dQ (e:fL.map lT=O mn):vA fL λa=>mn=lT a:=by
 induction fL using gA with
 |none=>injection e
 |some a=>replace e:=aY e;subst e;exact⟨a,aa,aa⟩
def yN (h:(!bs)=af):bs=false:=by induction bs using fD<;>first|rfl|injection h
def cl (f:ar->Q e4)(l:n ar):Q (n e4):=l.rec (O []) λa c i=>(f a).bind λb=>i.map (b::·)
def vV (s:aH):vy:=match g8 (e2 s)with|true=>.bG (e2 s)|false=>.f s
def rN (k:rf):Q av:=match k with
 |.none=>O (.d .C)
 |.bool b=>O (.d (.d b))
 |.int i=>O (.d (.e i))
 |.str s=>O (.d (vV s))
 |_=>ab
noncomputable def tw (x:aH):Bool:=x==("__debug__":aH)
noncomputable def hE (l:n aH)(x:aH):Q Nat:=l.findIdx? (·==x)
noncomputable def Ex (k:h5)(x:Q ar):Q ar:=match k with|.globalImplicit=>x|_=>ab
def ju (a:da)(x:aH):Q gs:=d5 (!tw x) ((a.f.lookup x).bind λk=>Ex k (a.h x))
noncomputable def yO (v:gs):Q av:=match v with
 |.e i=>O (.u i)
 |.c a=>O (.aa a)
 |.r l=>O (.I l)
 |_=>ab
def yP (a:da)(x:aH):Q av:=d5 (!tw x) ((a.f.lookup x).bind λk=>match k with
 |.local=>(hE a.b x).map .s
 |.cell=>(hE a.b x).map .s
 |.globalImplicit=>(a.h x).bind yO
 |_=>ab)
def tx (a:aH):Q kg:=
 if a=("append":aH)then O .i else if a=("extend":aH)then O .a else if a=("pop":aH)then O .s else if a=("get":aH)then O .b
 else d5 (g8 (e2 a)) (O (.d (e2 a)))
noncomputable def mx (e:ay)(d:ar)(f:aH->b0->ar):ar:=if h:e.ctorIdx=23 then x1 e h f else d
noncomputable def Ey (e:ay)(d:ar)(f:ay->aH->b0->ar):ar:=if h:e.ctorIdx=20 then Expr.Attribute.elim e h f else d
noncomputable def Ez (e:ay)(d:ar)(f:ay->ay->b0->ar):ar:=if h:e.ctorIdx=21 then Expr.Subscript.elim e h f else d
noncomputable def EA (e:ay)(d:ar)(f:Q ay->Q ay->Q ay->b0->ar):ar:=if h:e.ctorIdx=26 then Km e h f else d
noncomputable def yQ (e:ay)(d:ar)(f:rf->j->b0->ar):ar:=if h:e.ctorIdx=19 then Kn e h f else d
noncomputable def yR (e:ay)(d:ar)(f:ay->n ay->n u7->b0->ar):ar:=if h:e.ctorIdx=16 then Ko e h f else d
noncomputable def qf (e:ay)(d:ar)(f:n ay->j->b0->ar):ar:=if h:e.ctorIdx=25 then Kp e h f else d
noncomputable def EB (e:ay)(d:ar)(f:ay->n u8->iX->b0->ar):ar:=if h:e.ctorIdx=8 then Kq e h f else d
def rQ {i:xT aV}{f:aV->ar}(h:dite aV f (λa=>bW)=b8)(n:bW≠b8)(k:∀aV,f aV=b8->dr):dr:=by
 by_cases q:aV
 ·exact k q ((oE q).symm.trans h)
 ·exact b6 ((oF q).symm.trans h) n
def vW (h:mx aG bW qg=b8)(n:bW≠b8)(k:∀x p,qg x p=b8->hF (.Name x p)):hF aG:=
 rQ h n λc h=>x1 (motive_1:= λaG=>∀c:aG.ctorIdx=23,x1 aG c qg=b8->hF aG) aG c (λx p a h=>k x p h) c h
theorem Oa {f:Q ay->Q ay->Q ay->b0->ar}(h:EA aG bW f=b8)(n:bW≠b8)(k:∀a b c p,f a b c p=b8->hF (.Slice a b c p)):hF aG:=
 rQ h n λc h=>Km (motive_1:= λaG=>∀c:aG.ctorIdx=26,Km aG c f=b8->hF aG) aG c (λa b c p d h=>k a b c p h) c h
theorem Ob {f:rf->j->b0->ar}(h:yQ aG bW f=b8)(n:bW≠b8)(k:∀a b p,f a b p=b8->hF (.Constant a b p)):hF aG:=
 rQ h n λc h=>Kn (motive_1:= λaG=>∀c:aG.ctorIdx=19,Kn aG c f=b8->hF aG) aG c (λa b p d h=>k a b p h) c h
theorem Oc {f:ay->n ay->n u7->b0->ar}(h:yR aG bW f=b8)(d:bW≠b8)(k:∀a b c p,f a b c p=b8->hF (.Call a b c p)):hF aG:=
 rQ h d λc h=>Ko (motive_1:= λaG=>∀c:aG.ctorIdx=16,Ko aG c f=b8->hF aG) aG c (λa b c p e h=>k a b c p h) c h
theorem yS {f:n ay->j->b0->ar}(h:qf aG bW f=b8)(d:bW≠b8)(k:∀a b p,f a b p=b8->hF (.Tuple a b p)):hF aG:=
 rQ h d λc h=>Kp (motive_1:= λaG=>∀c:aG.ctorIdx=25,Kp aG c f=b8->hF aG) aG c (λa b p e h=>k a b p h) c h
theorem Od {f:ay->n u8->iX->b0->ar}(h:EB aG bW f=b8)(d:bW≠b8)(k:∀a b c p,f a b c p=b8->hF (.ListComp a b c p)):hF aG:=
 rQ h d λc h=>Kq (motive_1:= λaG=>∀c:aG.ctorIdx=8,Kq aG c f=b8->hF aG) aG c (λa b c p e h=>k a b c p h) c h
def o7:ab≠O bW:= λh=>by injection h
def qh:aN≠true:=k3
def qi (e:ay):Bool:=yR e aN λf b c a=>mx f aN λa a=>b.isEmpty&&c.isEmpty
def qj (e:ay):Q (Q ay×Q ay×Q ay):=EA e ab λa b c d=>O (a,b,c)
theorem Oe (h:qj aG=O (nY,yT,yU)):∃p,aG=.Slice nY yT yU p:=
 Oa (hF:= λaG=>∃p,aG=.Slice nY yT yU p) h o7 λa b c p h=>by injection h with h;injection h with d h;injection h with e f;subst d e f;exact⟨p,aa⟩
noncomputable def EC (e:ay):Bool:=e1 8 e.ctorIdx&&e1 e.ctorIdx 10
def ED (k:rf):Q Nat:=match k with
 |.str s=>d5 (g8 (e2 s)) (O (e2 s))
 |_=>ab
def nZ (e:ay):Q Nat:=yQ e ab λk a a=>ED k
def qk (h:g8 f=af):f<L eF:=by rw[vv];simpa [g8,sH]using h
theorem Of (h:ED my=O f):∃s,my=.str s/\bG f=s/\f<L eF:=by
 induction my using Const.casesOn<;>first|(injection h;done)|skip
 refine bd (fq h) λb a=>?_;replace a:=aY a;subst a;exact⟨_,aa,oU (qk b),qk b⟩
def yV (h:nZ aG=O f):∃s a p,aG=.Constant (.str s) a p/\bG f=s/\f<L eF:=
 Ob (hF:= λaG=>∃s a p,aG=.Constant (.str s) a p/\bG f=s/\f<L eF) h o7 λk a p h=>dU (Of h) λs b c d=>⟨s,a,p,b▸aa,c,d⟩
def mz (b:n (Q ay))(a:n ay):Q (n ay):=b.rec (motive:= λc=>n ay->Q (n ay)) (λa=>match a with|[]=>O []|_::_=>ab) (λk c f a=>match a with
    |[]=>ab
    |v::a=>k.bind λk=>(f a).map λr=>k::v::r) a
noncomputable def Og (k:rf):Bool:=match k with|.str _=>af|_=>aN
def Oh (e:ay):Bool:=yQ e aN λk a a=>Og k
def yW (a:n (Q ay)):Bool:=match a with
 |[]=>aN
 |k::_=>match k with|none=>aN|some e=>Oh e
def ty (e:ay):Q Str:=mx e ab λx a=>O x
def yX (e:ay):Q (n aH):=mx e (qf e ab λb a a=>cl ty b) λx a=>O [x]
noncomputable def tz (l:n (aH×h5)):n (aH×h5):=l.map λp=>(p.1,if p.2==.free then .cell else p.2)
noncomputable def fN (l:n (aH×h5)):n Str:=(l.filter λp=>p.2==.free).map (·.1)
noncomputable def EE (a:da)(b:n aH)(p:aH×h5):Bool:=match p.2 with
 |.local=>b.contains p.1||p.1==(".0":aH)
 |.free=>a.f.lookup p.1==O .cell
 |.globalImplicit=>af
 |_=>aN
def EF (c:da)(b:n aH)(a:iX):Bool:=
 an (a.kind=.function)&&an (b++fN a.names).Nodup&&an (a.names.map (·.1)).Nodup&&b.all (λt=>a.names.lookup t==O .local)&&e1 1 (L b)&&!a.isCoroutine&&!a.isGenerator&&
     a.names.all (EE c b)
def vX (a:da)(e:ay)(c:iX):Q da:=
 (yX e).bind λd=>d5 (EF a d c) (O {f:=tz c.names,b:=d++fN c.names,h:=a.h,a:=a.a,cells:=aN})
noncomputable def EG (v:gs):Bool:=match v with|.e5=>af|_=>aN
def Oi (a:da)(b:n ay)(c:n u7)(x:aH):Q (n ay):=match c with|[]=>(ju a x).bind λv=>d5 (EG v) (O b)|_::_=>ab
def yY (a:da)(e:ay):Q (n ay):=yR e ab λf b c d=>mx f ab λx d=>Oi a b c x
variable{rR:gs}{R gW:da}{dq lk:n ay}{aD:cU}{ax v6:aS}
def Oj (h:EG rR=af):rR=.e5:=by induction rR using gs.casesOn<;>first|rfl|injection h
theorem Ok (h:yY R aG=O dq):∃x p q,aG=.Call (.Name x p) dq [] q/\ju R x=O .e5:=
 Oc (hF:= λaG=>∃x p q,aG=.Call (.Name x p) dq [] q/\ju R x=O .e5) h o7 λf d b q h=>vW (hF:= λf=>∃x p a,Expr.Call f d b q=.Call (.Name x p) dq [] a/\ju R x=O .e5) h o7 λx p h=>by
  induction b using cv with
  |cons=>injection h
  |nil=>obtain⟨v,c,e⟩:=c6 h;refine bd (fq e) λg a=>?_;replace a:=aY a;subst a;rw[Oj g]at c;exact⟨x,p,q,aa,c⟩
def o8 (f:ay->Q av)(b:da)(e:ay):Q nd:=match yY b e with
 |some a=>d5 (e1 (L a) 2&&e1 1 (L a)) ((cl f a).map .e5)
 |none=>(f e).map .a
noncomputable def Ol (f:ay->Q av)(o:ay)(b a c:Q ay):Q av:=match c with
 |some _=>ab
 |none=>match b with
  |none=>(match a with|none=>ab|some a=>(f o).bind λx=>(f a).map λy=>.N x y)
  |some b=>(match a with
   |none=>(f o).bind λx=>(f b).map λy=>.lc x y
   |some a=>(f o).bind λx=>(f b).bind λy=>(f a).map λz=>.M x y z)
def ql (f:ay->Q av)(o i:ay)(a:av->j->ar)(k:av->av->ar):Q ar:=match nZ i with
 |some n=>(f o).map λx=>a x n
 |none=>(f o).bind λx=>(f i).map λy=>k x y
def yZ (f:ay->Q av)(o i:ay):Q av:=match qj i with
 |some p=>Ol f o p.1 p.2.1 p.2.2
 |none=>ql f o i .B .bz
def qm (a:da)(x:aH):Q dn:=(a.f.lookup x).bind λk=>match k with
 |.local=>(hE a.b x).map .s
 |.cell=>d5 a.cells ((hE a.b x).map .s)
 |_=>ab
noncomputable def y0 (x:Q ar):Bool:=match x with|none=>af|some _=>aN
def ai6 (h:y0 fL=af):fL=none:=by induction fL using gA<;>first|rfl|injection h
def Om (f:ay->Q av)(c:da)(g:ay->Q dn)(e:ay):Q dn:=mx e (Ey e (Ez e (qf e ab λa b b=>d5 (e1 (L a) 100) ((cl g a).map .r)) λo i b=>d5 (y0 (qj i)) (ql f o i .B .bz))
 λo a b=>d5 (g8 (e2 a)) ((f o).map λr=>.x r (e2 a))) λx b=>qm c x
def iJ (f:ay->Q av)(a:da)(n:j):ay->Q dn:=n.rec (λb=>ab) λb=>Om f a
noncomputable def On (a:UnaryOp)(x:Q av):Q av:=match a with
 |.USub=>x.map .E
 |.Not=>x.map .z
 |_=>ab
noncomputable def EH (f:ay->Q av)(a:ay)(e:n mW)(c:n ay):Q av:=match e with
 |[]=>ab
 |g::e=>match c with
  |[]=>ab
  |b::c=>match e with
   |[]=>(match c with|[]=>(f a).bind λx=>(f b).map λy=>.p g x y|_::_=>ab)
   |h::e=>match c with
    |[]=>ab
    |d::c=>match e with
     |[]=>(match c with|[]=>(f a).bind λx=>(f b).bind λy=>(f d).map λz=>.ep g h x y z|_::_=>ab)
     |_::_=>ab
def Oo (f:ay->Q av)(o:ay)(a:aH)(c:b0)(b:n ay)(q:b0):Q av:=
 d5 (!qi o&&e1 (L b) 20&&(c.endLine==q.line)) ((tx a).bind λm=>(f o).bind λx=>(cl f b).map λd=>.D x m d)
noncomputable def EI (v:gs)(x:av):Q av:=match v with
 |.A b=>(match b with|.f=>O (.isStr x)|.a=>O (.L x)|_=>ab)
 |_=>ab
def EJ (f:ay->Q av)(a:da)(b:n ay):Q av:=match b with
 |[]=>ab
 |e::r=>match r with
  |[]=>ab
  |t::r=>match r with
   |[]=>(ty t).bind λy=>(ju a y).bind λv=>(f e).bind λx=>EI v x
   |_::_=>ab
def EK (f:ay->Q av)(d:da)(v:gs)(c:n ay):Q av:=match v with
 |.d a=>(cl f c).map (.w a)
 |.A b=>(cl f c).map (.A b)
 |.f=>EJ f d c
 |_=>ab
def EL (f:ay->Q av)(b:da)(c:ay)(d:n ay)(e:n u7)(q:b0):Q av:=match e with
 |_::_=>ab
 |[]=>Ey c (mx c ab λx a=>(ju b x).bind λv=>EK f b v d) λo a g=>Oo f o a g d q
def EM (f:ay->Q av)(c:da)(a:n (Q ay))(b:n ay)(p:b0):Q av:=match a with
 |[]=>(match b with|[]=>O (.G (c.a p))|_::_=>ab)
 |k::a=>(mz (k::a) b).bind λl=>d5 (e1 (L l) 30) ((cl f l).map (match yW (k::a)with|true=>.K|false=>.h))
def y1 (F:da->ay->Q av)(b:da)(f:ay)(h:n u8)(d:iX):Q av:=match h with
 |[]=>ab
 |g::j=>match j with
  |_::_=>ab
  |[]=>match g with
   |⟨e,k,l,a⟩=>d5 (an (a=0)) ((vX b e d).bind λc=>(F c f).bind λx=>(iJ (F c) c 3 e).bind λt=>
      (cl (hE b.b) (fN d.names)).bind λm=>(o8 (F b) b k).bind λi=>(cl (F c) l).map λo=>.H x t m i o)
def Op (F:da->ay->Q av)(c:da)(e:ay):Q av:=match e with
 |.Constant k _ _=>rN k
 |.Name x _=>yP c x
 |.Tuple d _ _=>d5 (e1 (L d) 100) ((cl (F c) d).map .r)
 |.List d _=>d5 (e1 (L d) 100) ((cl (F c) d).map .y)
 |.BinOp a f b _=>(F c a).bind λx=>(F c b).map λy=>.q f x y
 |.UnaryOp f a _=>On f (F c a)
 |.BoolOp f d _=>(cl (F c) d).map (.J f)
 |.Compare a g h _=>EH (F c) a g h
 |.IfExp t a b _=>(F c t).bind λx=>(F c a).bind λy=>(F c b).map λz=>.C x y z
 |.Attribute o a _=>d5 (!qi o) (d5 (g8 (e2 a)) ((F c o).map λr=>.x r (e2 a)))
 |.Subscript o i _=>yZ (F c) o i
 |.Call h i g q=>EL (F c) c h i g q
 |.Dict g h p=>EM (F c) c g h p
 |.ListComp h i j _=>y1 F c h i j
 |_=>ab
def fi (n:j):da->ay->Q av:=n.rec (λa a=>ab) λa=>Op
def g9 (a:da)(e:ay):Q av:=fi 12 a e
def tA (e:ay):Bool:=mx e aN λa a=>af
def rS (t v:ay):Bool:=qf t (!(t.ctorIdx==24)) λb a a=>qf v af λc a a=>!c.all (Cg 8)&&!c.all (Ch 8)&&!(L b==3&&b.all tA)
noncomputable def EN (t:dn)(a:mV)(y:av):Q H:=match t with
 |.s i=>O (.m i a y)
 |_=>ab
def Oq (a:da)(t:ay)(b:mV)(v:ay):Q H:=mx t (Ez t ab λo i c=>(nZ i).bind λn=>(g9 a o).bind λx=>(g9 a v).map λz=>.p x n b z) λx c=>d5 (!tw x) ((qm a x).bind λt=>(g9 a v).bind λy=>EN t b y)
def Os (c:da)(g:e0->Q H)(s:e0):Q H:=match s with
 |.Expr v _=>d5 (!EC v) ((g9 c v).map .f)
 |.Pass _=>O .s
 |.Return v _=>(match v with|none=>O .r|some e=>(g9 c e).map .c)
 |.Assign a v _=>(match a with
  |[]=>ab
  |t::r=>(match r with|[]=>d5 (rS t v) ((iJ (g9 c) c 3 t).bind λx=>(g9 c v).map λy=>.d x y)|_::_=>ab))
 |.AugAssign t a v _=>Oq c t a v
 |.If t a b _=>(g9 c t).bind λx=>(cl g a).bind λy=>(cl g b).map λz=>.h x y z
 |.While t b o _=>(match o with|[]=>(g9 c t).bind λx=>(cl g b).map λy=>.q x y|_::_=>ab)
 |.For t a b o _=>(match o with|[]=>(iJ (g9 c) c 3 t).bind λx=>(o8 (g9 c) c a).bind λy=>(cl g b).map λz=>.k x y z|_::_=>ab)
 |.Raise _ _ _=>O .l
 |_=>ab
def rT (a:da)(n:j):e0->Q H:=n.rec (λb=>ab) λb=>Os a
def y2 (a:da)(b:n e0):Q (n H):=cl (rT a 8) b
structure gU (k:j)(A:eb):Prop where
 C:A.handled=ab
 y:A.depth+4*k+10<=recursionLimit
 a:A.units+20*k+200<=cLine
def gU.line (b:gU f a8):qb a8:=by have:=b.a;unfold qb;exact ex (.lt (.b .a (.y 100)) .e) (.le (.b (.b .a (.f 20 .l)) (.y 200)) .e) this
def y3 (Q:ae->b1->Prop):Result->b1->Prop:= λr a=>match r with|.ok (.ret v)=>Q v a|.ok _=>c8|.error e=>cb e a
def jS (c:cQ)(k:j):aQ:= λf b H Q=>∀A g a,gU k A->bi c H g->bp g a b->codeAny c.a A (.call (.ref f) ⟨a,[]⟩) (y3 (dP c g Q)) g.c
structure f8 (c:cQ)(b:da)(a:cU):Prop where
 f:a.scope.names=b.f
 h:tv c b.h a.globals a.builtins
structure ia (c:cQ)where
 y:j
 a:aQ
 ok:∀f b H Q,a f b H Q->jS c y f b H Q
abbrev ez (c:cQ)(k:ia c)(n:j):ho:=ei c.P k.a n
def cm (c:cQ)(k:ia c)(b:da)(e:ay)(r:av):Prop:=
 ∀n {A:eb}{a:cU}{L:aS}{H:Z}{g:bl}{Q:bg},f8 c b a->gU k.y A->dV c a b.b L g->bi c H g->
  (ez c k n).a r L H Q->bL c.a A (gn e a) (dP c g Q) cb g.c
def hq (c:cQ)(k:ia c)(b:da)(e:ay)(r:av):Prop:=
 ∀n {A:eb}{a:cU}{L:aS}{H:Z}{g:bl}{Q:fp},f8 c b a->gU k.y A->dV c a b.b L g->bi c H g->
  (ez c k n).T r L H Q->bL c.a A (u9 e a (gn e a)) (mr c g Q) cb g.c
variable{aA:ia t}{bV ip pa:av}{tB:hg ae}{w xM:bg}{tC:hg bm}{fF:fp}{o9:hg mX}{dm:bI}{dh:ay->Q av}{v2 y5:mW}{kL:kg}{aI eB:b2}{tI:n (ae×ae)}{ll:iX}{kn:n (aH×h5)}{rU:h5}{M N Y ag ah ao aJ bc bA b' cy co ci:be}{aC l7:cd}{fb:dn}{cO:n aH}{fr:Data}{n5:f4}{fG:f6}{G hu:bZ}{t8:ar->x}{t9:x->Z->(be->bI)->Prop}{q:ac->Q E}{A hK:aQ}
theorem gV (h:∀n {a8:eb}{aD:cU}{ax:aS}{c:Z}{v:bl}{Q:bg},f8 t R aD->gU aA.y a8->dV t aD R.b ax v->bi t c v->
 vH t.P aA.a (ez t aA n) bV ax c Q->bL t.a a8 (gn aG aD) (dP t v Q) cb v.c):cm t aA R aG bV:=by
 intro n a8 aD ax c v Q K B F a q;induction n using dx with
 |zero=>exact q.elim
 |succ n=>exact h n K B F a q
theorem qn (h:∀n {a8:eb}{aD:cU}{ax:aS}{c:Z}{v:bl}{Q:fp},f8 t R aD->gU aA.y a8->dV t aD R.b ax v->bi t c v->
 tp t.P aA.a (ez t aA n) bV ax c Q->bL t.a a8 (u9 aG aD (gn aG aD)) (mr t v Q) cb v.c):hq t aA R aG bV:=by
 intro n a8 aD ax c v Q K B F a q;induction n using dx with
 |zero=>exact q.elim
 |succ n=>exact h n K B F a q
theorem bw (h:bL t.a a8 tB (dP t v w) cb v.c)
 (f:∀c x bb (bX:bl),a1 bX c x->bi t bb bX->cA d3 v bX->w x bb->dN c bX.c):bL t.a a8 tB dN qd v.c:=
 hx h (λc e z=>by obtain⟨x,bb,g,a,b,t,d⟩:=z;exact f c x bb ⟨e,g⟩ a b t d) λa a e=>e.elim
theorem nk {W:bm->b1->Prop}(h:bL t.a a8 tC (mr t v fF) cb v.c)
 (f:∀b bb (bX:bl),bi t bb bX->cA d3 v bX->fF b bb->W b bX.c):bL t.a a8 tC W dN v.c:=
 hx h (λa c z=>by obtain⟨bb,e,b,t,d⟩:=z;exact f a bb ⟨c,e⟩ b t d) λa a e=>e.elim
theorem vY (h:bL t.a a8 o9 (tq t v dm) cb v.c)
 (f:∀bb (bX:bl),bi t bb bX->cA d3 v bX->dm bb->i7 ⟨⟩ bX.c):bL t.a a8 o9 i7 dN v.c:=
 hx h (λe a z=>by obtain⟨bb,c,b,t,d⟩:=z;exact f bb ⟨a,c⟩ b t d) λa a e=>e.elim
def dP.eG (S:cA d3 v bX)(z:dP t bX w bE ap):dP t v w bE ap:=by obtain⟨x,c,e,a,b,t,d⟩:=z;exact⟨x,c,e,a,b,S.y t,d⟩
def kK (S:cA d3 v bX)(z:bL t.a a8 tB (dP t bX w) cb ap):bL t.a a8 tB (dP t v w) cb ap:=
 hx z (λa a y=>y.eG S) λa a e=>e
def tD (S:cA d3 v bX)(z:bL t.a a8 tC (mr t bX fF) cb ap):bL t.a a8 tC (mr t v fF) cb ap:=
 hx z (λa a y=>by obtain⟨c,e,b,t,d⟩:=y;exact⟨c,e,b,S.y t,d⟩) λa a e=>e
def qo (a:a1 bX bE p)(R:bi t bb bX)(S:cA d3 v bX)(q:w p bb):dP t v w bE bX.c:=⟨p,bb,bX.a,a,R,S,q⟩
def n0 (R:bi t bb bX)(S:cA d3 v bX)(q:fF bs bb):mr t v fF bs bX.c:=⟨bb,bX.a,R,S,q⟩
inductive Ot (t:cQ)(d:j)(v:bl)(Q:E->bI)(e:n ae)(ap:b1):Prop
 |mk (a:E)(c:Z)(b:n (ac×ac))(f:bp ⟨ap,b⟩ e a)(f:L a=d)(R:bi t c ⟨ap,b⟩)(S:cA d3 v ⟨ap,b⟩)(q:Q a c)
def jT (e:cl f7 (bW::ct)=O iI):∃b a,f7 bW=O b/\cl f7 ct=O a/\iI=b::a:=by obtain⟨b,c,d⟩:=c6 (show((f7 bW).bind λb=>(cl f7 ct).map (b::·))=O iI from e);obtain⟨a,f,rfl⟩:=dQ d;exact⟨b,a,c,f,aa⟩
def vZ (e:cl f7 ct=O iI):L iI=L ct:=by
 induction ct generalizing iI with
 |nil=>replace e:=aY e;subst e;rfl
 |cons a r c=>refine d0 (jT e) ?_;rintro b a a d rfl;simp[c d]
def v0 (e:ay):Prop:=(∀a,u' a e=aN)/\∀aD a,mY (e::a) aD=(aN,gn e aD)::mY a aD
def v1 (h:fi f R aG=O bV):v0 aG:=by
 induction f using dx with
 |zero=>injection h
 |succ f=>induction aG using jJ<;>first|exact⟨λa=>aa,λa a=>aa⟩|injection h
structure hU (t:cQ)(aA:ia t)(R:da)(f:ay->Q av):Prop where
 a:∀e r,f e=O r->cm t aA R e r
 an:∀e r,f e=O r->v0 e
theorem y4 (o:hU t aA R dh)(K:f8 t R aD)(B:gU aA.y a8)(k:b0)(p:j):
 ∀{f:n ay}{g:n av}{c:Z}{v:bl}{i:E->bI},cl dh f=O g->dV t aD R.b ax v->bi t c v->lQ (ez t aA p) g ax c i->
  bL t.a a8 (spliced (oG k (mY f aD))) (Ot t (L f) v i) cb v.c:=by
 intro f;induction f with
 |nil=>intro g c v i e F m h;replace e:=aY e;subst e;exact Kr ⟨[],c,v.a,.l,aa,m,cA.D _ _,h⟩
 |cons e f w=>intro g c v i y F m h;refine d0 (jT y) ?_;rintro r g s A rfl;rw[(o.an e r s).2];have C:oG k ((aN,gn e aD)::mY f aD)=(aN,gn e aD)::oG k (mY f aD):=aa;rw[C];refine x2 (bw (o.a e r s p K B F m h) λP x bb bX D G u H=>hx (w A (F.e u) G H) (λP P z=>?_) λI I e=>e);obtain⟨J,M,N,a,l,b,d,q⟩:=z;exact⟨x::J,M,N,.a (D.u d.togh) a,by simp[l],b,u.y d,q⟩
section
variable{cO:n aH}{rU:h5}{tF:n av}{jQ:mV}
def o' (e:hE cO a9=O f):cO[f]?=O a9:=by refine aL (List.findIdx?_eq_some_iff_getElem.mp e) λh a b=>?_;rw[eM h];simpa using a
def Ou (s:aH):(vV s).u=.f s:=by
 delta vV;cases e:g8 (e2 s)with
 |true=>exact cp x.f (oU (qk e))
 |false=>rfl
set_option tactic.hygienic true in
theorem Ov (e:rN my=O bV):cm t aA R (.Constant my f cE) bV:=by
 refine gV λn A b L H g Q K B F a h=>?_;cases my
 case none=>replace e:=aY e;subst e;exact wpAny_Constant_none (e6 a .C h)
 case bool=>replace e:=aY e;subst e;exact wpAny_Constant_bool (e6 a (.d _) h)
 case int=>replace e:=aY e;subst e;exact wpAny_Constant_int (e6 a (.e _ _) h)
 case str x=>replace e:=aY e;subst e;have h:Q (vV x).u H:=h;rw[Ou]at h;exact Ci (e6 a (.f _ _) h)
 all_goals injection e
def EO (h:(!tw a9)=af):(a9==("__debug__":aH))=false:=yN h
def EP (e:Ex rU fL=O bW):rU=.globalImplicit/\fL=O bW:=by
 induction rU using Cj<;>first|exact⟨aa,e⟩|injection e
def tE (K:f8 t R aD){x:aH}{a:h5}(e:R.f.lookup x=O a):aD.kindOf x=O a:=by unfold Env.kindOf;rw[K.f];exact e
set_option tactic.hygienic true in
theorem EQ (b:yP R a9=O bV):cm t aA R (.Name a9 cE) bV:=by
 refine gV λn A p L H g Q K B F f h=>bd (fq b) λj b=>?_;have j:=EO j;obtain⟨r,s,b⟩:=c6 b;have o:(hE R.b a9).map av.s=O bV->bL t.a A (gn (.Name a9 cE) p) (dP t g Q) cb g.c:= λb=>by obtain⟨i,w,rfl⟩:=dQ b;exact d4 h λv x q=>N' F f (o' w) x q j
 cases r
 case «local»=>exact o b
 case cell=>exact o b
 case globalImplicit=>
  have k:=tE K s;obtain⟨v,m,b⟩:=c6 (show(R.h a9).bind yO=O bV from b);cases v
  case e i=>replace b:=aY b;subst b;exact nj f F.f K.h k m j λu d=>by refine bu d ?_;clear d;rintro y rfl;exact e6 f (.e _ _) h
  case c a=>replace b:=aY b;subst b;exact nj f F.f K.h k m j λu d=>by have d:u=.ref a:=d;subst d;exact e6 f (.h _) h
  case r l=>replace b:=aY b;subst b;exact nj f F.f K.h k m j λu d=>e6 f d h
  all_goals injection b
 all_goals injection b
theorem rV (h:f<=100):f<=de/\f<=sizeLine:=⟨by have:de=1000000:=aa;exact lK (.le .a .e) (.le .a (.y 100)) (.l .e (.y 1000000)) [1,1,-1] h this,jt (by have:de=1000000:=aa;exact lK (.le .a .e) (.le .a (.y 100)) (.l .e (.y 1000000)) [1,1,-1] h this)⟩
theorem Ow (i:hU t aA R dh)(e:cl dh dq=O tF)(c:L dq<=100):cm t aA R (.Tuple dq f cE) (.r tF):=by refine gV λk A g g H g g K B F m h=>wpAny_Tuple (hx (y4 i K B cE k e F m h) (λg g z=>?_) λo o e=>e);obtain⟨g,g,g,a,l,b,d,q⟩:=z;exact⟨(rV (hB [_,_,_] [] (.le .a (.y 100)) (.le .e (.y 100)) (.l .l .e) (.l .a .l) c l a.e)).2,dP.eG d (D4 b (by simpa using a) (rV (k' (.le .a (.y 100)) (.le .e (.y 100)) (.l .a .e) c l)).1 q)⟩
theorem Ox (f:hU t aA R dh)(e:cl dh dq=O tF)(c:L dq<=100):cm t aA R (.List dq cE) (.y tF):=by refine gV λi A g g H g g K B F j h=>wpAny_List (hx (y4 f K B cE i e F j h) (λg g z=>?_) λk k e=>e);obtain⟨g,g,g,a,l,b,d,q⟩:=z;exact⟨(rV (hB [_,_,_] [] (.le .a (.y 100)) (.le .e (.y 100)) (.l .l .e) (.l .a .l) c l a.e)).2,dP.eG d (yG b (by simpa using a) (rV (k' (.le .a (.y 100)) (.le .e (.y 100)) (.l .a .e) c l)).1 q)⟩
theorem Oy (c:cm t aA R aG bV)(d:cm t aA R cF ip):cm t aA R (.BinOp aG jQ cF cE) (.q jQ bV ip):=gV λn A g L H g Q K B F e h=>wpAny_BinOp (bw (c n K B F e h) λu z g g f i a j=>bw (d n K B (F.e a) i j) λv g g g k l b m=>kK (a.y b) (Nv l (f.u b.togh) k m))
theorem Oz (a:cm t aA R aG bV):cm t aA R (.UnaryOp .USub aG cE) (.E bV):=gV λn A g L H g Q K B F b h=>wpAny_UnaryOp (bw (a n K B F b h) λu z g g c d e f=>kK e (c.y f λi g q=>neg_int (e6 d (.e _ _) q)))
theorem OA (a:cm t aA R aG bV):cm t aA R (.UnaryOp .Not aG cE) (.z bV):=by refine gV λn A g L H g Q K B F c h=>wpAny_UnaryOp (bw (a n K B F c h) λu z g g d f i j=>d4 j λb k q=>not_of (hx (yJ f d k (Q:= λb H=>Q (.d (!b)) H) q) (λb g z=>?_) λl l e=>e));obtain⟨m,o,p,r,q⟩:=z;exact⟨_,m,o,.d _,p,i.y r,q⟩
theorem OB (y:hU t aA R dh){c:oB}{l:b0}{A:eb}{d:cU}{L:aS}(K:f8 t R d)(B:gU aA.y A)(m:j):
 ∀{a:n ay}{i:n av}{H:Z}{g:bl}{f:bg},cl dh a=O i->dV t d R.b L g->bi t H g->yD (ez t aA m) c i L H f->
  bL t.a A (boolOp l c (x3 a d)) (dP t g f) cb g.c:=by
 intro a;induction a with
 |nil=>intro i H g f e F s h;replace e:=aY e;subst e;exact h.elim
 |cons e a G=>
  intro i H g f I F s h;refine d0 (jT I) ?_;rintro r i z k rfl;induction a using cv with
  |nil=>replace k:=aY k;subst k;exact y.a e r z m K B F s h
  |cons C a=>
   refine d0 (jT k) ?_;rintro J M x x rfl;show bL _ _ (do
    let v<-gn e d
    pR l
    let b<-me [v] (sG v)
    match c,b with
    |.And,aN|.Or,af=>dk v
    |_,_=>boolOp l c (x3 (C::a) d)) _ _ _
   refine bh (bw (y.a e r z m K B F s h) λv x N x D P u o=>bh (j' (bh (eE (d4 o λb S o=>nk (yJ P D S (Q:= λw p=>w=b/\p=N) ⟨aa,aa⟩) λw T U E p q=>?_)))));refine bd q ?_;clear q;rintro rfl rfl;have V:yD (ez t aA m) c (J::M) L T f->bL t.a A (boolOp l c (x3 (C::a) d)) (dP t g f) cb U.c:=
    λq=>kK (u.y p) (G k (F.e (u.y p)) E q)
   cases c<;>cases w<;>first|exact(λq=>cX (qo (D.u p.togh) E (u.y p) q)) o|exact V o
def OC (d:hU t aA R dh){a:oB}{b:n ay}{c:n av}{f:b0}(e:cl dh b=O c):cm t aA R (.BoolOp a b f) (.J a c):=by refine gV λi A g L H g g K B F j h=>?_;rw[arm_eval_BoolOp];exact OB d K B i e F j h
theorem OD (d:hq t aA R aG bV)(e:cm t aA R cF ip)(f:cm t aA R mA pa):cm t aA R (.IfExp aG cF mA cE) (.C bV ip pa):=by
 refine gV λn A g L H g Q K B F i h=>wpAny_IfExp (nk (d n K B F i h) λr g g b a c=>?_);induction r using fD with
 |true=>exact kK a (e n K B (F.e a) b c)
 |false=>exact kK a (f n K B (F.e a) b c)
theorem ER (a:qi aG=aN):attributeBase aG a9 aD (gn aG aD)=gn aG aD:=by
 induction aG using jJ<;>first|rfl|skip
 case Call=>
  induction func using jJ<;>first|rfl|skip
  case Name=>
   induction args using cv with
   |cons _ _=>rfl
   |nil=>induction keywords using cv with
    |cons _ _=>rfl
    |nil=>injection a
theorem OE (T:d9 t){o:ay}{a:aH}{x:av}{b:b0}(c:cm t aA R o x)(d:qi o=aN)(e:e2 a<L eF):cm t aA R (.Attribute o a b) (.x x (e2 a)):=by refine gV λn A g g H g Q K B F f h=>Attribute_any_ (bw (c n K B F f h) λu z g g i j k l=>?_) (by rw[arm_eval_Attribute,ER d]);have:=NO (a8:=A) (g:=af) T j i l;rw[oU e]at this;refine bw this λv y g g m p r q=>?_;refine bd q ?_;clear q;rintro rfl q;exact qo m p (k.y r) q
def ES (a:qj aG=ab)(o i:ae):subscripted aG aN o i=operate [o,i] (uZ o i):=by
 induction aG using jJ<;>first|rfl|injection a
theorem OF (T:d9 t){o i:ay}{x y:av}{c:b0}(d:cm t aA R o x)(e:cm t aA R i y)(f:qj i=ab):cm t aA R (.Subscript o i c) (.bz x y):=by refine gV λn A g L H g Q K B F j h=>x4 (bw (d n K B F j h) λu z g g k l a m=>bw (e n K B (F.e a) l m) λv g g g p r b s=>?_);obtain⟨w,g,g,C,D⟩:=Ny (a8:=A) T r (k.u b.togh) p s;refine tail_any C D (bw w λg y g g E G I q=>?_) (ES f _ _);refine bd q ?_;clear q;rintro rfl q;exact qo E G ((a.y b).y I) q
theorem OG (d:cm t aA R aG bV)(e:nZ cF=O f):cm t aA R (.Subscript aG cF cE) (.B bV f):=by refine i0 (yV e) ?_;rintro s a p rfl rfl i;refine gV λn A a L H g Q K B F k h=>x4 (bw (d n K B F k h) λu z a b l m o r=>Ci (bd (m.same (ap:={b.c with toks:=b.c.toks+1}) aa) λv c=>?_));obtain⟨w,a,a,x,C⟩:=Ec (a8:=A) (d:=b.c.toks) v (l.u (c d3).togh) i r;refine tail_any x C (bw w λa y a a D E G q=>?_) (ES aa _ _);refine bd q ?_;clear q;rintro rfl q;exact qo D E ((o.y (c d3)).y G) q
end
def OH:rg (.type "int") (.type "str")=dk false:=by rw[rh];rfl'
def OI:rg (.type "bool") (.type "str")=dk false:=by rw[rh];rfl'
def OJ:rg (.type "NoneType") (.type "str")=dk false:=by rw[rh];rfl'
def OK:rg (.type "tuple") (.type "str")=dk false:=by rw[rh];rfl'
def c0:rg (.type "int") (.type "tuple")=dk false:=by rw[rh];rfl'
def OM:rg (.type "bool") (.type "tuple")=dk false:=by rw[rh];rfl'
def ON:rg (.type "NoneType") (.type "tuple")=dk false:=by rw[rh];rfl'
def OO:rg (.type "str") (.type "tuple")=dk false:=by rw[rh];rfl'
theorem OP (b:a1 v bE p)(a:p6 p=O bs)(q:∀g,dN (.bool bs) {v.c with toks:=g}):
 bL t.a a8 (lD (.builtin "isinstance") [bE,.type "str"]) dN cb v.c:=by
 induction b using pO with
 |C=>replace a:=aY a;subst a;exact ri (isinstance_false_none ⋯ x5 OJ) (q _)
 |d=>replace a:=aY a;subst a;exact ri (isinstance_false_bool ⋯ x5 OI) (q _)
 |e=>replace a:=aY a;subst a;exact ri (isinstance_false_int ⋯ x5 OH) (q _)
 |f=>replace a:=aY a;subst a;exact call_isinstance_yes (Tx:="str") aa x5 PySem.F.isi_self_str (q v.c.toks)
 |r h=>replace a:=aY a;subst a;exact ri (isinstance_false_tuple ⋯ x5 OK) ⟨⟨_,h,aa⟩,q _⟩
 |c=>injection a
 |h=>injection a
theorem OQ (b:a1 v bE p)(a:D0 p=O bs)(q:∀g,dN (.bool bs) {v.c with toks:=g}):
 bL t.a a8 (lD (.builtin "isinstance") [bE,.type "tuple"]) dN cb v.c:=by
 induction b using pO with
 |C=>replace a:=aY a;subst a;exact ri (isinstance_false_none ⋯ x6 ON) (q _)
 |d=>replace a:=aY a;subst a;exact ri (isinstance_false_bool ⋯ x6 OM) (q _)
 |e=>replace a:=aY a;subst a;exact ri (isinstance_false_int ⋯ x6 c0) (q _)
 |f=>replace a:=aY a;subst a;exact ri (isinstance_false_str ⋯ x6 OO) (q _)
 |r h=>replace a:=aY a;subst a;exact call_isinstance_yes ⟨_,h,aa⟩ x6 PySem.F.isi_self_tuple (q v.c.toks)
 |c=>injection a
 |h=>injection a
theorem rW (T:d9 t)(d:bi t c v)(e:qb a8)(g:a1 v bE p)(i:a1 v h' U)
 (h:mo t.P v2 p U c λr=>fF r c)(f:∀r (a:bl),bi t c a->cA d3 v a->fF r c->dN (.bool r) a.c):bL t.a a8 (rb v2 bE h') dN cb v.c:=
 bw (Nx T d e g i h) λm m m a j k l q=>by refine dU q ?_;clear q;rintro b rfl rfl q;cases j;exact f b a k l q
theorem OR (T:d9 t){a b:ay}{c:mW}{x y:av}{f:b0}(i:cm t aA R a x)(j:cm t aA R b y)(k:u' c b=aN):cm t aA R (.Compare a [c] [b] f) (.p c x y):=by
 refine gV λn A g L H g Q K B F l h=>?_;exact wpAny_Compare1 (bw (i n K B F l h) λu z g g m o d p=>bw (j n K B (F.e d) o p) λv g g g s w e C=>
  rW (fF:= λr H=>Q (.d r) H) T w B.line (m.u e.togh) s C λr g D E q=>qo (.d r) D ((d.y e).y E) q) k
theorem OS (T:d9 t){a b:ay}{c:mW}{x y:av}{f:b0}(i:cm t aA R a x)(j:cm t aA R b y)(k:u' c b=aN):hq t aA R (.Compare a [c] [b] f) (.p c x y):=by
 refine qn λn A g L H g Q K B F l h=>?_;exact wpAny_isTrue_Compare1 (bw (i n K B F l h) λu z g g m o d p=>bw (j n K B (F.e d) o p) λv g g g s w e C=>
  rW (fF:=Q) T w B.line (m.u e.togh) s C λr g D E q=>xW (n0 D ((d.y e).y E) q)) k
def ET (a:u' y5 cF=aN):markedEach [v2,y5] [aG,cF] (x3 [aG,cF] aD)=[gn aG aD,gn cF aD]:=by refine(?_: [gn aG aD,markedBehindIn y5 cF (gn cF aD)]=_);delta markedBehindIn;rw[a]
theorem OT (T:d9 t){a b d:ay}{i e:mW}{x y z:av}{f:b0}(w:cm t aA R a x)(C:cm t aA R b y)(D:cm t aA R d z)(E:u' e d=aN):
 cm t aA R (.Compare a [i,e] [b,d] f) (.ep i e x y z):=by
 refine gV λn A j L H g Q K B F G h=>?_;rw[arm_eval_Compare,ET E];refine bh (bw (w n K B F G h) λu g g g I J k M=>?_);show bL _ _ (do
  let c<-me [u] (gn b j)
  pR f
  let t<-me [u,c] (rb i u c)
  release [u,c] [t]
  if<-me [t,c] (sG t)then compareChain f c [e] [gn d j]else dk t) _ _ _
 refine bh (eE (bw (C n K B (F.e k) J M) λv N g g o P l U=>bh (j' (bh (eE ?_)))));refine rW (fF:= λr H=>match r with
  |false=>Q (.d aN) H
  |true=>(ez t aA n).a z L H λm H=>mo t.P e N m H λr=>Q (.d r) H) T P B.line (I.u l.togh) o U λr g p m q=>?_
 refine bh (x7 (bh (eE (xW ?_))));induction r using fD with
 |false=>exact cX (qo (.d aN) p ((k.y l).y m) q)
 |true=>
  show bL _ _ (do
   let c<-me [v] (gn d j)
   pR f
   operate [v,c] (rb e v c)) _ _ _
  have S:=(k.y l).y m;exact bh (eE (bw (D n K B (F.e S) p q) λg g g g V W s X=>bh (j' (wpAny_operate' (rW (fF:= λr H=>Q (.d r) H) T W B.line (o.u (m.y s).togh) V X λr g Y Z q=>qo (.d r) Y ((S.y s).y Z) q)))))
theorem OU (T:d9 t){a b d:ay}{i e:mW}{x y z:av}{f:b0}(w:cm t aA R a x)(C:cm t aA R b y)(D:cm t aA R d z)(E:u' e d=aN):
 hq t aA R (.Compare a [i,e] [b,d] f) (.ep i e x y z):=by
 refine qn λn A j L H g Q K B F G h=>?_;rw[arm_isTrue_Compare,ET E];refine bh (bw (w n K B F G h) λu g g g I J k M=>?_);show bL _ _ (do
  let c<-me [u] (gn b j)
  pR f
  let t<-me [u,c] (rb i u c)
  release [u,c] [t]
  if<-me [t,c] (sG t)then testChain f c [e] [gn d j]else dk aN) _ _ _
 refine bh (eE (bw (C n K B (F.e k) J M) λv N g g o P l U=>bh (j' (bh (eE ?_)))));refine rW (fF:= λr H=>match r with
  |false=>Q aN H
  |true=>(ez t aA n).a z L H λm H=>mo t.P e N m H λr=>Q r H) T P B.line (I.u l.togh) o U λr g p m q=>?_
 refine bh (x7 (bh (eE (xW ?_))));induction r using fD with
 |false=>exact cX (n0 p ((k.y l).y m) q)
 |true=>
  show bL _ _ (do
   let c<-me [v] (gn d j)
   pR f
   let t<-operate [v,c] (rb e v c)
   me [t] (sG t)) _ _ _
  have S:=(k.y l).y m;exact bh (eE (bw (D n K B (F.e S) p q) λg g g g V W s X=>bh (j' (bh (wpAny_operate' (rW (fF:=Q) T W B.line (o.u (m.y s).togh) V X λr g Y Z q=>eE (xW (n0 Y ((S.y s).y Z) q))))))))
def OV (a:hq t aA R aG bV):hq t aA R (.UnaryOp .Not aG cE) (.z bV):=qn λn A b L H g Q K B F c h=>wpAny_isTrue_Not (nk (a n K B F c h) λb b b d e q=>n0 d e q)
theorem OW (d:hq t aA R aG bV)(e:hq t aA R cF ip)(f:hq t aA R mA pa):hq t aA R (.IfExp aG cF mA cE) (.C bV ip pa):=by
 refine qn λn A g L H g Q K B F i h=>isTrue_IfExp (nk (d n K B F i h) λr g g b a c=>?_);induction r using fD with
 |true=>exact tD a (e n K B (F.e a) b c)
 |false=>exact tD a (f n K B (F.e a) b c)
theorem OX (u:∀e r,dh e=O r->hq t aA R e r){d:oB}{A:eb}{m:cU}{L:aS}(K:f8 t R m)(B:gU aA.y A)(o:j):
 ∀{f:n ay}{i:n av}{H:Z}{g:bl}{k:fp},cl dh f=O i->dV t m R.b L g->bi t H g->tn (ez t aA o) d i L H k->
  bL t.a A (allTrue d f m) (mr t g k) cb g.c:=by
 intro f;induction f with
 |nil=>intro i H g k e F p h;replace e:=aY e;subst e;rw[arm_allTrue_nil];cases d<;>exact cX (n0 p (cA.D _ _) h)
 |cons e f x=>
  intro i H g k y F p h;refine d0 (jT y) ?_;rintro r i v z rfl;rw[arm_allTrue_cons];have w:∀{s:Z}{l:bl},bi t s l->cA d3 g l->tn (ez t aA o) d i L s k->bL t.a A (allTrue d f m) (mr t g k) cb l.c:=
   λc a q=>tD a (x z (F.e a) c q)
  cases d with
  |And=>
   refine bh (nk (u e r v o K B F p h) λb s l c a q=>?_);induction b using fD with
   |false=>exact cX (n0 c a q)
   |true=>exact w c a q
  |Or=>
   refine bh (nk (u e r v o K B F p h) λb s l c a q=>?_);induction b using fD with
   |false=>exact w c a q
   |true=>exact cX (n0 c a q)
def OY (d:∀e r,dh e=O r->hq t aA R e r){a:oB}{b:n ay}{c:n av}{f:b0}(e:cl dh b=O c):hq t aA R (.BoolOp a b f) (.J a c):=qn λi A g L H g g K B F j h=>wpAny_isTrue_BoolOp (OX d K B i e F j h)
theorem OZ (h:cm t aA R aG bV)
 (d:∀{n:j}{L:aS}{H:Z}{Q:fp},tp t.P aA.a (ez t aA n) bV L H Q->nV t.P aA.a (ez t aA n) bV L H Q)
 (e:∀a c,u9 aG a c=do let v<-c;pR aG.pos;me [v] (sG v)):hq t aA R aG bV:=by
 refine qn λn A a L H g Q K B F f q=>?_;rw[e];exact bh (bw (h (n+1) K B F f (show(ez t aA (n+1)).a bV L H (λv H=>a7 (li H v) λb=>Q b H)from d q)) λv x g g i k l m=>bh (j' (eE (d4 m λb o q=>tD l (yJ k i o q)))))
def y6 (h:dN (.ref ap.heap.objs.size) {ap with heap:=ap.heap.push (kl bE h')}):
 bL t.a a8 (newFields "slice" [bE,h',.none]) dN cb ap:=by
 exact wpAny_newObj_type h (by show(3:j)<=pP+2;decide)
theorem y7 (h:rP t a8 v bE h' EU w)(c:∀aG i,subscripted cF aN aG i=operate [i,aG] (uZ aG i)):
 bL t.a a8 (subscriptTail aG cF bE (.ref v.c.heap.objs.size)) (dP t v w) cb {v.c with heap:=v.c.heap.push (kl h' EU)}:=by
 obtain⟨d,e,a,b,f⟩:=h;refine tail_any (T:=e) ?_ f d (c _ _);cases bE with
 |ref a=>exact aL b λg j k=>⟨g,kD _ j,k⟩
 |_=>exact b
theorem O0 (T:d9 t){o a:ay}{x y:av}{p d:b0}(e:cm t aA R o x)(f:cm t aA R a y):cm t aA R (.Subscript o (.Slice ab (O a) ab p) d) (.N x y):=by refine gV λn A g L H g Q K B F i h=>x4 (bw (e n K B F i h) λu z g g j k b l=>?_);rw[Ks];exact bh (cX (bh (eE (bw (f n K B (F.e b) k l) λv g g g m q c r=>bh (eE (cX (y6 (kK (b.y c) (y7 (NA T q (j.u c.togh) m r) λs s=>aa)))))))))
theorem O1 (c:cm t aA R aG bV)(d:cm t aA R cF ip):cm t aA R (.Subscript aG (.Slice (O cF) ab ab cE) km) (.lc bV ip):=by refine gV λn A g L H g Q K B F e h=>x4 (bw (c n K B F e h) λu z g g f i a j=>?_);rw[Ks];exact bh (bw (d n K B (F.e a) i j) λv g g g k l b m=>bh (eE (cX (bh (eE (cX (y6 (kK (a.y b) (y7 (NB l (f.u b.togh) k m) λo o=>aa)))))))))
theorem O2 (d:cm t aA R aG bV)(e:cm t aA R cF ip)(f:cm t aA R mA pa):cm t aA R (.Subscript aG (.Slice (O cF) (O mA) ab cE) km) (.M bV ip pa):=by refine gV λn A g L H g Q K B F i h=>x4 (bw (d n K B F i h) λu g g g j k a l=>?_);rw[Ks];exact bh (bw (e n K B (F.e a) k l) λv g g g m o b p=>bh (eE (bw (f n K B (F.e (a.y b)) o p) λg g g g q r c s=>bh (eE (cX (y6 (kK ((a.y b).y c) (y7 (NC r (j.u (b.y c).togh) (m.u c.togh) q s) λw w=>aa))))))))
theorem v3 (f:hU t aA R dh){c:cU}{d:b0}:∀{a:n ay}{b:n av},cl dh a=O b->(oG d (mY a c)).any (·.1)=false:=by
 intro a;induction a with
 |nil=>intro e e;rfl
 |cons e a g=>intro b h;refine d0 (jT h) ?_;rintro r b i j rfl;rw[(f.an e r i).2];refine(?_:(aN||(oG d (mY a c)).any (·.1))=aN);rw[g j];rfl
theorem tG (s:hU t aA R dh){A:eb}{o:cU}{L:aS}(K:f8 t R o)(B:gU aA.y A){u:b0}{D:ae}(v:j)
 {c:n ay}{p:n av}{H:Z}{g:bl}{x:E->bI}{W:Args->b1->Prop}(e:cl dh c=O p)(F:dV t o R.b L g)(y:bi t H g)(h:lQ (ez t aA v) p L H x)
 (w:∀f i k (m:bl),bp m f i->bi t k m->cA d3 g m->x i k->W ⟨f,[]⟩ m.c):
 bL t.a A (evalArgs D af (oG u (mY c o)) []) W cb g.c:=by
 have C:=y4 s K B u v e F y h;induction c using cv with
 |nil=>replace e:=aY e;subst e;exact PySem.evalArgs_none (w [] [] H g .l y (cA.D _ _) h)
 |cons G c=>refine d0 (jT e) ?_;rintro r p I l rfl;rw[(s.an G r I).2]at C⊢;refine Kt (hx C (λf J z=>?_) λM M e=>e);obtain⟨i,k,N,a,l,b,d,q⟩:=z;exact w f i k ⟨J,N⟩ a b d q
theorem qp (K:f8 t R aD)(e:ju R a9=O rR):(a9==("__debug__":aH))=aN/\aD.kindOf a9=O .globalImplicit/\R.h a9=O rR:=by refine bd (fq e) λa e=>?_;obtain⟨c,b,e⟩:=c6 e;refine bd (EP e) ?_;rintro rfl e;exact⟨EO a,tE K b,e⟩
def y8 (c:cQ)(b:da):Prop:=∀x a,b.h x=O (.d a)->c.P.d a=af
def O3 (G:y8 t R)(e:ju R a9=O (.d ak)):t.P.d ak=true:=by refine bd (fq e) λa e=>?_;obtain⟨a,_,e⟩:=c6 e;refine bd (EP e) ?_;rintro rfl e;exact G a9 ak e
theorem O4 (T:d9 t)(G:y8 t R){f:ay->Q av}(c:hU t aA R f){x:aH}{p m:b0}{a:ac}{d:n ay}{i:n av}
 (j:ju R x=O (.d a))(e:cl f d=O i):cm t aA R (.Call (.Name x p) d [] m) (.w a i):=by
 refine gV λr A g L H g g K B F k h=>c9 (qp K j) λs v w=>x8 (nj k F.f K.h v w s λu b=>?_);have b:u=.ref a:=b;subst b;exact m8 T.h λy X g g z=>callWith_of (P:= λh=>y.In h) (by rw[v3 c e];rfl) (keeps_K (z a (O3 G j))) (tG c K B r e F k h λC g g D E l I q=>⟨λa o e=>l.a a o (X a o e),kK I (wpAny_call (aA.ok _ _ _ _ q A D C B l E))⟩)
theorem O5 (T:d9 t){f:ay->Q av}(j:hU t aA R f){x:aH}{p d:b0}{b:oV}{k:n ay}{l:n av}
 (o:ju R x=O (.A b))(e:cl f k=O l):cm t aA R (.Call (.Name x p) k [] d) (.A b l):=by
 refine gV λr A s L H g v K B F m h=>c9 (qp K o) λw y z=>x8 (nj m F.f K.h y z w λu i=>?_);have i:u=b.u:=i;subst i;have c:=tG j K B r (u:=d) (D:=b.u) (W:= λa q=>bL t.a A (lD b.u ([]++a.pos) a.kw) (dP t g v) cb q) e F m h
  (λE E E E a C D q=>kK D (N7 T B.C C a q))
 have a:=v3 j (c:=s) (d:=d) e;cases b
 ·exact rj a c
 ·exact Ck a c
 ·exact Ck a c
 ·exact Ck a c
 ·exact rj a c
theorem O6 (e:cm t aA R aG bV)(f:v0 aG)(i:ju R a9=O .f)(j:ju R ib=O (.A .f)):
 cm t aA R (.Call (.Name a9 cE) [aG,.Name ib km] [] tH) (.isStr bV):=by
 refine gV λn A g L H g Q K B F c h=>c9 (qp K i) λk l m=>c9 (qp K j) λo p r=>x8 (nj c F.f K.h l m k λu a=>?_);have a:u=.builtin "isinstance":=a;subst a;rw[f.2];refine rj aa (Kt (x2 (bw (e n K B F c h) λv z g g s d w x=>x2 (nj d F.f K.h p r o λu a=>?_))));have a:u=.type "str":=a;subst a;exact Kr (d4 x λb y q=>kK w (OP s y λg=>e6 d (.d b) q))
theorem O7 (e:cm t aA R aG bV)(f:v0 aG)(i:ju R a9=O .f)(j:ju R ib=O (.A .a)):
 cm t aA R (.Call (.Name a9 cE) [aG,.Name ib km] [] tH) (.L bV):=by
 refine gV λn A g L H g Q K B F c h=>c9 (qp K i) λk l m=>c9 (qp K j) λo p r=>x8 (nj c F.f K.h l m k λu a=>?_);have a:u=.builtin "isinstance":=a;subst a;rw[f.2];refine rj aa (Kt (x2 (bw (e n K B F c h) λv z g g s d w x=>x2 (nj d F.f K.h p r o λu a=>?_))));have a:u=.type "tuple":=a;subst a;exact Kr (d4 x λb y q=>kK w (OQ s y λg=>e6 d (.d b) q))
theorem O8 (m:j):cm t aA R (.Dict [] [] cE) (.G m):=by
 refine gV λn A n n H g Q K B F i h=>wpAny_Dict_empty ?_;have G:=hS g.c.heap {cls:=.type "dict",data:=.dict #[]};have e:=ji g.c.heap (o:={cls:=.type "dict",data:=.dict #[]}) aa;have d:∀c:aX,c.e=aN->(∀a,a.c.heap=g.c.heap.push {cls:=.type "dict",data:=.dict #[]}->i3 t a (g.c.heap.objs.size,g.c.heap.objs.size) c)->mk H c Q->dP t g Q (.ref g.c.heap.objs.size) {g.c with heap:=g.c.heap.push {cls:=.type "dict",data:=.dict #[]}}:=by intro c b r q;exact bd (i.K (ap:={g.c with heap:=g.c.heap.push {cls:=.type "dict",data:=.dict #[]}}) b (br _) G.1 G.2 (gz e) (λk=>r _ aa)) λf l=>⟨.c (L H),_,_,by rw[<-i.W];exact a1.aP,f,l,q⟩
 have D:∀{K:Type} [iU K] {l:uY t.d t.c K},(g.c.heap.push {cls:=.type "dict",data:=.dict #[]}).DictOf l g.c.heap.objs.size []:=
  ⟨_,#[],0,e,⟨aa,aa,aa⟩,aa,λk f=>by simp at f,.nil,by simp⟩
 induction m using dx with
 |zero=>exact d (.h []) aa (λa b=>⟨[],by rw[b];exact D,.l,⋯⟩) h
 |succ m=>induction m using dx with
  |zero=>exact d (.K []) aa (λa b=>⟨[],by rw[b];exact D,.l,⋯,λp q=>by cases q⟩) h
  |succ m=>exact d (.c []) aa (λa b=>⟨#[],0,by rw[b];exact e,λk f=>by simp at f,aa,⋯⟩) h
theorem O9 (e:tx a9=O kL):kL.e=a9:=by
 delta tx at e;by_cases a:a9=("append":aH)
 ·rw[cP a]at e;replace e:=aY e;subst e;exact a.symm
 rw[ce a]at e;by_cases b:a9=("extend":aH)
 ·rw[cP b]at e;replace e:=aY e;subst e;exact b.symm
 rw[ce b]at e;by_cases c:a9=("pop":aH)
 ·rw[cP c]at e;replace e:=aY e;subst e;exact c.symm
 rw[ce c]at e;by_cases d:a9=("get":aH)
 ·rw[cP d]at e;replace e:=aY e;subst e;exact d.symm
 rw[ce d]at e;refine bd (fq e) λf e=>?_;replace e:=aY e;subst e;exact oU (qk f)
theorem O' (e:hD t.P p kL c=O (.d ak)):∃C i,t.P.D C i=O ak:=by
 have f:∀{t o},vF t o=O (.d ak)->t=.d ak:= λ{t o} e=>by induction o using hf<;>first|exact aY e|injection e
 have g:∀{o},DX o=O (.d ak)->False:= λ{o} e=>by induction o using hf<;>first|(injection e;done)|injection aY e
 have h:∀{kL o},DW t.P kL o=O (.d ak)->∃C i,t.P.D C i=O ak:= λ{kL o} e=>by
  induction o using hf with
  |a C b=>
   have e:(match bH b kL with|none=>(t.P.D C kL).map i5.d|some _=>ab)=O (.d ak):=e;cases d:bH b kL with
   |some _=>rw[d]at e;injection e
   |none=>rw[d]at e;exact aL (h3.mp e) λk j a=>by injection a with a;exact⟨C,kL,a▸j⟩
  |_=>injection e
 have d:∀{a},(match yA kL with|true=>(t.P.e a).map λb=>i5.b|false=>ab)=O (.d ak)->False:= λ{a} e=>by
  cases q:yA kL with
  |true=>rw[q]at e;exact aL (h3.mp e) λb b e=>by injection e
  |false=>rw[q]at e;injection e
 induction p using eh<;>first|(injection e;done)|exact(d e).elim|skip
 refine aL (jG.mp e) λo b e=>?_;induction kL using kg.casesOn<;>first|exact h e|exact(g e).elim|(injection f e;done)
theorem Pa (T:d9 t){f:ay->Q av}(D:hU t aA R f){o:ay}{x:av}{a:aH}{m:kg}{E b:b0}{c:n ay}{N:n av}
 (ajl:cm t aA R o x)(ajm:qi o=aN)(ajn:tx a=O m)(S:L c<=20)(ajo:(E.endLine==b.line)=af)(e:cl f c=O N):cm t aA R (.Call (.Attribute o a E) c [] b) (.D x m N):=by
 refine gV λG A d C H g ajp K B F ajq h=>?_;rw[arm_eval_Call,ER ajm];refine bh (bw (ajl G K B F ajq h) λu z C U I J s v=>bh (j' (d4 v λj V v=>?_)));have k:=v3 D (c:=d) (d:=b) e;have ajr:methodCallForm (L c+L ([]:n u7)) (oG b (mY c d)) (backToKw b (keywordEach [] d))=true:=by
  delta methodCallForm;have l:(oG b (mY c d)).all (λx=>!x.1)=true:=by
   rewrite [mZ]
   intro y p;simpa using(List.any_eq_false.mp k y p)
  have p:(an (L c<30))=true:=by simp;exact g4 S ⋯
  rw[show backToKw b (keywordEach [] d)=[]from aa];simp[l];exact g4 S ⋯
 delta methodCall;rw[ajr];refine bh (eE ?_);have W:=NR (a8:=A) (J:=(do return(<-importBound o d).getD af)) (Q:= λr l=>r=(j.u,[u])/\l=U.c) T J I V ⟨aa,aa⟩;rw[O9 ajn]at W;refine hx W (λr Y z=>?_) λl l e=>e;refine bd z ?_;clear z;rintro rfl rfl;dsimp only;have ajs:methodCallPos af o d E b=dk b:=by delta methodCallPos;rw[ajo];rfl
 rw[ajs];refine bh (cX ((?_:bL _ _ (callWith b j.u [u] (oG b (mY c d)) []) _ _ _)));have w:(∀f,j≠.d f)->bL t.a A (evalArgs j.u af (oG b (mY c d)) []) (λa Y=>bL t.a A (lD j.u ([u]++a.pos) a.kw) (dP t g ajp) cb Y) cb U.c:= λajt=>
  tG D K B G e (F.e s) J v λZ aju ajv CS M y p q=>kK (s.y p) (En T y B.line (I.u p.togh) M ajt q)
 induction j using i5.casesOn with
 |d C=>refine m8 T.h λajw X C ajx C=>eO (O' V) λC C ajy=>?_;have OL:=ajx _ _ _ ajy;simp only[vK,fu]at OL;exact callWith_of (P:= λh=>ajw.In h) (by rw[k];rfl) (keeps_K OL.2) (tG D K B G e (F.e s) J v λZ aju ajv CS M y p q=>⟨λa o e=>y.a a o (X a o e),kK (s.y p) (wpAny_call (aA.ok _ _ _ _ q A CS (u::Z) B y (.a (I.u p.togh) M)))⟩)
 |i=>exact rj k (w λl z=>by injection z)
 |a=>exact rj k (w λl z=>by injection z)
 |s=>exact rj k (w λl z=>by injection z)
 |b=>exact rj k (w λl z=>by injection z)
theorem bi.aR (R:bi t c v){a:ac}{o:aX}(d:o.e=aN)(f:t.b.heap.objs.size<=a)(g:a<v.c.heap.objs.size)(j:¬T v a)(r:i3 t v (a,a) o):bi t (c++[o]) ⟨v.c,v.a++[(a,a)]⟩:=by have X:gh v ⟨v.c,v.a++[(a,a)]⟩:=⟨.D _,(λi q e=>by rw[ek (cs.mp e).1];exact e)⟩;refine R.ab (by induction o using hf<;>first|rfl|injection d) (λb h=>?_) X (r.u X λb y e h=>h);rw[show b=a from h.elim id id];exact⟨j,f,g⟩
def n1 (b:cU)(d:b0)(e:n (Q ay))(a:n ay):n (hg ae×hg ae):=e.rec (motive:= λc=>n ay->n (hg ae×hg ae)) (λc=>[]) (λaA c f a=>match aA with
    |none=>[]
    |some aA=>match a with
     |[]=>[]
     |v::a=>(gn aA b,do let x<-gn v b;pR d;dk x)::f a) a
theorem EV {c:n (Q ay)}(e:mz (nY::c) dq=O lk):∃a v d b,nY=O a/\dq=v::d/\mz c d=O b/\lk=a::v::b:=by
 induction dq using cv with
 |nil=>injection e
 |cons v dq=>obtain⟨a,rfl,e⟩:=c6 (show(nY.bind λnY=>(mz c dq).map λr=>nY::v::r)=O lk from e);obtain⟨b,e,rfl⟩:=dQ e;exact⟨a,v,dq,b,aa,aa,by assumption,aa⟩
def EW (e:mz [] dq=O lk):dq=[]/\lk=[]:=by
 induction dq using cv<;>cases e;exact⟨aa,aa⟩
theorem Pb (c:cU)(d:b0):∀{a:n (Q ay)}{b l:n ay},mz a b=O l->
 (evalEachOpt a c).zip ((x3 b c).map λv=>do let x<-v;pR d;dk x)=(n1 c d a b).map (λp=>(O p.1,p.2))/\L l=2*L (n1 c d a b)/\(a≠[]->n1 c d a b≠[]):=by
 intro a;induction a with
 |nil=>intro b l e;refine bd (EW e) ?_;rintro rfl rfl;exact⟨aa,aa,λh=>b6 aa h⟩
 |cons aA a f=>intro b l e;refine nL (EV e) ?_;rintro k v k k rfl rfl g rfl;refine c9 (f g) λh i j=>⟨?_,by simp only[n1,hM];exact k6 (.b (.b .a .r) .r) (.f 2 (.b .e .r)) (.l .a (.f 2 .e)) cc [1,-1] i,λj=>by simp[n1]⟩;simp only[n1,oz];exact cp (_::·) h
class inductive qq (g:bl):n (ae×ae)->E->Prop
 |l:qq g [] []
 |a {u v:ae}{b y:x}{r:n (ae×ae)}{c:E}:a1 g u b->a1 g v y->qq g r c->qq g ((u,v)::r) (b::y::c)
theorem Pc (G:hU t aA R dh){A:eb}{p:cU}{L:aS}(K:f8 t R p)(B:gU aA.y A)(J:b0)(r:j):
 ∀{c:n (Q ay)}{k l:n ay}{m:n av}{H:Z}{g:bl}{o:E->bI},mz c k=O l->cl dh l=O m->dV t p R.b L g->bi t H g->lQ (ez t aA r) m L H o->
  bL t.a A (evalPairs (n1 p J c k)) (λI a=>∃s b f,qq ⟨a,f⟩ I s/\bi t b ⟨a,f⟩/\cA d3 g ⟨a,f⟩/\o s b) cb g.c:=by
 intro c;induction c with
 |nil=>intro k l m H g o e i F w h;refine bd (EW e) ?_;rintro rfl rfl;replace i:=aY i;subst i;exact cX ⟨[],H,g.a,.l,w,cA.D _ _,h⟩
 |cons u c M=>intro k l m H g o e i F w h;refine nL (EV e) ?_;rintro u v u u rfl rfl N rfl;refine d0 (jT i) ?_;rintro u u P S rfl;refine d0 (jT S) ?_;rintro u u T U rfl;simp only[n1,evalPairs];exact bh (bw (G.a _ _ P r K B F w h) λu x u u V W C X=>bh (eE (bh (bw (G.a _ _ T r K B (F.e C) W X) λu y u u Y CS D OL=>bh (j' (cX (bh (eE (hx (M N U (F.e (C.y D)) CS OL) (λI u z=>ke z λs ajl f a b d q=>cX ⟨_,ajl,f,.a (V.u (D.y d).togh) (Y.u d.togh) a,b,(C.y D).y d,q⟩) λa a e=>e)))))))))
theorem Pd (b:tl (p::U::k)=O aI):∃i a,p=.e i/\tl k=O a/\aI=(i,U)::a:=by
 induction p using eh with
 |e i=>obtain⟨a,b,rfl⟩:=dQ (show(tl k).map ((i,U)::·)=O aI from b);exact⟨i,a,aa,by assumption,aa⟩
 |_=>injection b
theorem Pe (e:tm (p::U::k)=O cg):∃s a,p=.f s/\e2 s<L eF/\tm k=O a/\cg=(e2 s,U)::a:=by
 induction p using eh with
 |f s=>
  have e:(match g8 (e2 s)with|true=>(tm k).map ((e2 s,U)::·)|false=>ab)=O cg:=e;cases q:g8 (e2 s)with
  |false=>rw[q]at e;injection e
  |true=>rw[q]at e;obtain⟨a,e,rfl⟩:=dQ e;exact⟨s,a,aa,qk q,by assumption,aa⟩
 |_=>injection e
theorem Pf (r:qq v tI k):∀{c:b2},tl k=O c->∃d:n (m×ae),Carries (lE t.d t.c) tI d/\dM v d c:=by
 induction r with
 |l=>intro c e;replace e:=aY e;subst e;exact⟨[],bY,.l⟩
 |a f b r g=>intro c e;refine d0 (Pd e) ?_;rintro i i rfl h rfl;exact f.K λi=>aL (g h) λd j o=>⟨(_,_)::d,⟨oD t.d t.c _ _,aa,j⟩,.a b o⟩
theorem Pg (r:qq v tI k):∀{c:n (j×x)},tm k=O c->∃f:n (aH×ae),Carries (strKind t.d t.c) tI f/\dM v f (hR c)/\∀p,p∈c->p.1<L eF:=by
 induction r with
 |l=>intro c e;replace e:=aY e;subst e;exact⟨[],bY,.l,λp d=>by cases d⟩
 |a h b r m=>
  intro c e;refine gG (Pe e) ?_;rintro i w rfl g o rfl;refine h.aR λw=>dU (m o) λf q s u=>⟨(bG (e2 i),_)::f,⟨by rw[oU g];exact uX t.d t.c _ _,aa,q⟩,.a b s,λp d=>?_⟩;rcases fw.mp d with rfl|d
  ·exact g
  ·exact u p d
theorem Ph {K:Type} [iU K] {c:n (K×ae)}{d:K}{v:ae}(h:(c.map (·.1)).Nodup):((uS c d v).map (·.1)).Nodup:=by
 delta uS;by_cases q:(c.any λf=>an (f.1=d))=af
 ·rw[cP q];have:(c.map λf=>if f.1=d then(f.1,v)else f).map (·.1)=c.map (·.1):=by
   rw[Ku];apply ais;intro x a;refine(?_:(if x.1=d then(x.1,v)else x).1=x.1);by_cases z:x.1=d
   ·rw[cP z]
   ·rw[ce z]
  rw[this];exact h
 ·rw[ce q]
  rewrite [eu,oH]
  refine⟨h,by simp,λa g b i e=>?_⟩;simp at i;subst i e;rw[f2]at g;refine aL g ?_;clear g;rintro x j rfl;exact q (Kv.mpr ⟨x,j,by simp⟩)
theorem EX {K:Type} [iU K] {g:bl}{m:n (K×ae)}{f:n (K×x)}(r:dM g m f):∀{c:n (K×ae)}{d:n (K×x)},dM g c d->(c.map (·.1)).Nodup->dM g (merged c m) (nh f d):=by
 induction r with
 |l=>intro c d e b;exact e
 |a i b j=>intro c d e h;exact j (e.stored i h _) (Ph h)
theorem Pi:∀{l:n (j×x)}{a:n (j×x)},(∀p,p∈l->p.1<L eF)->(∀p,p∈a->p.1<L eF)->nh (hR l) (hR a)=hR (nh l a)/\∀p,p∈nh l a->p.1<L eF:=by
 intro l;induction l with
 |nil=>intro a c b;exact⟨aa,b⟩
 |cons p r e=>intro a c b;have d:p.1<L eF:=c p (db ..);have:=e (a:=bF a p.1 p.2) (λq f=>c q (dy _ f)) (DH p.2 b d);refine⟨(?_:nh (hR r) (bF (hR a) (bG p.1) p.2)=_),this.2⟩;rw[DG p.2 b d];exact this.1
theorem EY {K:Type} [iU K] (l:n (K×x)):∀(a:n (K×x)),L (nh l a)<=L l+L a:=by
 induction l with
 |nil=>intro a;exact ev _ _
 |cons p r b=>intro a;simp only[hM];exact kc (.le .a (.b (.b .e .r) .l)) (.le .a (.b .e .s)) (.le .s (.b .l .r)) (b (bF a p.1 p.2)) (vS a p.1 p.2)
theorem Pj {K:Type} [iU K] {f:uY t.d t.c K}:∀{c:n (ae×ae)}{a b:n (K×ae)},Carries f c a->Carries f c b->a=b:=by
 intro c;induction c with
 |nil=>intro a b d e;induction a using cv<;>cases b<;>first|rfl|exact d.elim|exact e.elim
 |cons p r g=>
  intro a b d e;obtain⟨o,o⟩:=p;induction a using cv with
  |nil=>exact d.elim
  |cons x a=>
   induction b using cv with
   |nil=>exact e.elim
   |cons y b=>obtain⟨o,o⟩:=x;obtain⟨o,o⟩:=y;refine c9 d λh i j=>c9 e λk l m=>?_;rw[f.inj _ _ _ h k,<-i,<-l,g j m]
theorem EZ {K:Type} [iU K] {V:uY t.d t.c K}{f:ay->Q av}(ajE:hU t aA R f){J:n (Q ay)}{X l:n ay}{ajo:n av}{M:b0}(ajp:mz J X=O l)(e:cl f l=O ajo)(Y:L l<=30)(ajF:J≠[])
 {A:eb}{y:cU}{ajq:aS}{H:Z}{g:bl}{ajr:bg}{W:E->bI}(CS:j)(ajG:f8 t R y)(B:gU aA.y A)(F:dV t y R.b ajq g)(N:bi t H g)(h:lQ (ez t aA CS) ajo ajq H W)
 (ajs:∀(ajt OL:bl) r m s,qq ajt m r->W r s->L m<=15->gh ajt OL->∃C,Carries V m C/\∀d,OL.c.heap.DictOf V d (merged [] C)->∃u,aX.e u=aN/\i3 t OL (d,d) u/\mk s u ajr):
 bL t.a A (gn (.Dict J X M) y) (dP t g ajr) cb g.c:=by
 refine c9 (Pb y M ajp) λajH ajl ajI=>wpAny_Dict_pairs (knd:=V) ajH (ajI ajF) (lK (.le .a (.y 15)) (.le .e (.y 30)) (.l .e (.f 2 .a)) [2,1,-1] Y ajl:L (n1 y M J X)<=15) ?_;have G:=hS g.c.heap {cls:=.type "dict",data:=.dict #[]};refine bd (N.u (ap:={g.c with heap:=g.c.heap.push {cls:=.type "dict",data:=.dict #[]}}) G.1 G.2) λajJ aju=>?_;have ajv:=ji g.c.heap (o:={cls:=.type "dict",data:=.dict #[]}) aa;have ajw:¬T ⟨{g.c with heap:=g.c.heap.push {cls:=.type "dict",data:=.dict #[]}},g.a⟩ g.c.heap.objs.size:=N.C (br _);refine hx (wpAny_evalPairs_len (Pc ajE ajG B M CS ajp e (F.e (aju d3)) ajJ h)) (λm c z=>?_) λv v e=>e;obtain⟨ajx,r,s,k,a,ajy,ajm,q⟩:=z;have P:c.heap.get? g.c.heap.objs.size=O {cls:=.type "dict",data:=.dict #[]}:=ajm.u _ _ ajv ajw λq=>q;have ajz:¬T ⟨c,k⟩ g.c.heap.objs.size:= λD=>ajw (ajm.c _ (gz ajv) D);refine aL (ajs ⟨c,k⟩ ⟨c,k⟩ r m s a q (gE [_,_,_] [] (.le .a (.y 15)) (.le .e (.y 30)) (.l .e (.f 2 .l)) (.l .a .l) [2,1,-1,2] Y ajl ajx) ⟨.D _,λv v e=>e⟩) λC ajA v=>⟨C,ajA,⟨_,#[],0,P,⟨aa,aa,aa⟩,aa,λv b=>by simp at b,.nil,by simp⟩,λajn ajK S=>(bd (ajy.D (ap:={c with heap:=ajn,toks:=c.toks+L m}) ajz N.d (λu x=>by have x:c.heap.get? g.c.heap.objs.size=O u:=x;rw[P]at x;replace x:=aY x;subst x;intro ajL;refine eO ajL λr CS z=>?_;injection z) (SameBut.ext S) (he S.1.symm)) λajM U=>?_)⟩;refine aL (ajs ⟨c,k⟩ ⟨{c with heap:=ajn,toks:=c.toks+L m},k⟩ r m s a q (gE [_,_,_] [] (.le .a (.y 15)) (.le .e (.y 30)) (.l .e (.f 2 .l)) (.l .a .l) [2,1,-1,2] Y ajl ajx) U.togh) λajN ajO w=>?_;have ajP:ajN=C:=Pj ajO ajA;subst ajP;refine dU (w _ ajK) λu ajQ ajR ajS=>?_;have ajT:=ajM.aR (a:=g.c.heap.objs.size) ajQ N.d (by rw[S.1];exact gz P:g.c.heap.objs.size<ajn.objs.size) (λD=>ajz (U.c _ (gz P) D)) ajR;have I:=(aju d3).y ajm;refine⟨.c (L s),_,k++[(g.c.heap.objs.size,g.c.heap.objs.size)],by rw[<-ajy.W];exact a1.aP,ajT,⟨⟨I.r.y U.r,λi p e=>(λi q e=>by rw[ek (cs.mp e).1];exact e) i p (I.l i p e)⟩,λb ajU ajB ajV v=>?_,λb ajC D=>?_,aU I.s U.s⟩,ajS⟩
 ·exact(S.2 b (jH (gz ajB))).trans (I.u b ajU ajB ajV λq=>q)
 ·refine gq D λi p e ajD=>?_;by_cases q:i<L k
  ·have e:(k++[(g.c.heap.objs.size,g.c.heap.objs.size)])[i]?=O p:=e;rw[ek q]at e;exact I.c b ajC ⟨i,p,e,ajD⟩
  ·have e:(k++[(g.c.heap.objs.size,g.c.heap.objs.size)])[i]?=O p:=e;rw[hh (lC q)]at e;have:=(cs.mp e).1;simp at this;rw[(this:i-L k=0)]at e;simp at e;subst e;exact iV (lK .F (.lt .a .e) (.l .a .e) [1,-1] ajC (ajD.elim id id))
theorem Pk (o:hU t aA R dh){b:n (Q ay)}{c l:n ay}{f:n av}{p:b0}(r:mz b c=O l)(e:cl dh l=O f)(s:L l<=30)(u:b≠[]):
 cm t aA R (.Dict b c p) (.h f):=by
 refine gV λv A d d H g d K B F w h=>EZ (V:=lE t.d t.c) o r e s u v K B F w h λd d d d d a q x X=>d4 q λi y q=>aL (Pf (t:=t) a y) λz j k=>⟨z,j,λd C=>⟨.h (nh i []),aa,⟨_,C,EX (k.u X) .l (by simp),?_⟩,q⟩⟩
 ·have m:=EY i [];simp only[x9]at m;exact m5 [_,_,_,_,_] [] (.le .a .e) (.le .l (.y 15)) (.le .a (.b .s .K)) (.l .X .s) (.l .X .l) (.l .e (.y 1000000)) [1,1,1,-1,1,-1] x m k.e j.length aa
theorem Pl (r:hU t aA R dh){b:n (Q ay)}{i l:n ay}{j:n av}{s:b0}(u:mz b i=O l)(e:cl dh l=O j)(v:L l<=30)(w:b≠[]):
 cm t aA R (.Dict b i s) (.K j):=by
 refine gV λx A g g H g g K B F y h=>EZ (V:=strKind t.d t.c) r u e v w x K B F y h λg g g g g a q z X=>d4 q λc C q=>dU (Pg (t:=t) a C) λD k m E=>bd (Pi (l:=c) (a:=[]) E (λp d=>by cases d)) λp G=>⟨D,k,λd I=>⟨.K (nh c []),aa,⟨_,I,?_,?_,G⟩,q⟩⟩
 ·rw[<-p];exact EX (m.u X) .l (by simp)
 ·have o:=EY c [];have f:=m.e;unfold hR at f;simp only[x9,cj]at o f;exact m5 [_,_,_,_,_] [] (.le .a .e) (.le .l (.y 15)) (.le .a (.b .s .K)) (.l .X .l) (.l .e (.y 1000000)) (.l .X .s) [1,1,1,1,-1,-1] z o k.length aa f
section
theorem E0 (a:m)(n i:j):(fT a n)[i]?=if i<n then O (x.e (a+i))else none:=by
 induction n generalizing a i with
 |zero=>rw[ce (va i)];rfl
 |succ n b=>
  induction i using dx with
  |zero=>rw[cP (vb _),jg];rfl
  |succ i=>
   rw[b];by_cases h:i<n
   ·rw[cP h,cP (ck (.lt (.b .a .r) (.b .e .r)) (.lt .a .e) h),show a+1+(i:m)=a+((i+1:j):m) by exact mi [_] [_] (.b (.b .a .r) (.d .a)) (.b .a (.d (.b .a .r)))]
   ·rw[ce h,ce (ck (.b (.lt (.b .a .r) (.b .e .r))) (.b (.lt .a .e)) h)]
inductive hr (v:bl)(t:f6)(c:ac)(i:j):Prop
 |y {a:j}{p:ac×ac}:t.l=O a->v.a[a]?=O p->v.c.heap.IsListIter c p.1 i->hr v t c i
 |r {b:ac}{a:dC ae}{n:j}:t.l=ab->v.c.heap.get? b=O {cls:=.type "tuple",data:=.seq a n}->bp v a.toList t.a->v.c.heap.IsTupleIter c b i->hr v t c i
 |e5 {x:m}{n:j}:t.l=ab->t.a=fT x n->IsRangeIter v.c.heap c (x+(i:j)) ((n:m)-(i:j)) 1->hr v t c i
open Internal.hr renaming casesOn->x'
variable{fG:f6}{cO:n aH}{pc:aS->bI}{n2:ay->Q dn}{fb:dn}{Py Pz:Tok}
theorem hr.u (a:∀o,v.c.heap.get? ak=O o->bX.c.heap.get? ak=O o)(X:gh v bX):hr v fG ak f->hr bX fG ak f:=by
 intro h;induction h using x' with
 |y e b h=>exact .y e (X.l _ _ b) (h.imp λo h=>⟨a o h.1,h.2⟩)
 |r e b c h=>exact .r e (X.r _ _ b aa ⟨_,_,aa⟩) (c.u X) (h.imp λo h=>⟨a o h.1,h.2⟩)
 |e5 e b c=>exact .e5 e b (a _ c)
theorem hr.e:hr v fG ak f->∃o,v.c.heap.get? ak=O o/\¬∃a n,o.data=.seq a n:=by
 intro h;induction h using x' with
 |y _ _ h=>exact h.imp λo h=>⟨h.1,λq=>eO q λa n z=>by rw[h.2.2]at z;injection z⟩
 |r _ _ _ h=>exact h.imp λo h=>⟨h.1,λq=>eO q λa n z=>by rw[h.2.2]at z;injection z⟩
 |e5 _ _ b=>exact⟨_,b,λq=>eO q λa n z=>by injection z⟩
def v4 (t:f6)(H:Z):Prop:=∀a,t.l=O a->H[a]?=O (.y t.a)
theorem rX (h:jr fG c aV):v4 fG c/\aV:=by
 delta jr at h;cases e:fG.l with
 |none=>rw[e]at h;exact⟨λa z=>(by rw[e]at z;injection z),h⟩
 |some a=>rw[e]at h;exact⟨λb z=>by rw[e]at z;replace z:=aY z;subst z;exact h.1,h.2⟩
def y9 (c:cQ)(t:f6)(d:ac)(i:j)(H:Z)(g:bl)(r:Q ae)(a:b1):Prop:=
 bi c H ⟨a,g.a⟩/\cA (λb=>b=d) g ⟨a,g.a⟩/\match r with
  |some v=>∃x,t.a[i]?=O x/\a1 ⟨a,g.a⟩ v x/\hr ⟨a,g.a⟩ t d (i+1)
  |none=>t.a[i]?=ab
def E1 (b:bp v dp.toList k) (a:dp[f]?=ab):k[f]?=none:=by have:=b.e;simp only[Kw,Array.getElem?_eq_none_iff,Ce]at a this⊢;exact g6 (.le .a .e) (.l .l .a) (.le .l .e) [1,-1,1] this a
theorem E2 (R:bi t c v)(D:a8.handled=ab){r:f6}{g:ac}{i:j}(I:hr v r g i)(N:v4 r c)(K:t.b.heap.objs.size<=g)(L:¬T v g):
 bL t.a a8 (pyNext (.ref g)) (y9 t r g i c v) cb v.c:=by
 obtain⟨p,P,Q⟩:=I.e;have M:∀o,v.c.heap.get? g=O o->¬∃S n,o.data=.seq S n:= λo u=>by rw[P]at u;cases u;exact Q
 have E:∀(ap:b1)(q:ae)(f:x),r.a[i]?=O f->a1 v q f->uT g v.c.heap ap.heap->ap.gens=v.c.gens->ap.os=v.c.os->(gh v ⟨ap,v.a⟩->hr ⟨ap,v.a⟩ r g (i+1))->y9 t r g i c v (O q) ap:=by intro ap q f h w k a u l;obtain⟨F,z⟩:=R.D L K M (SameBut.ext k) (he k.1.symm) a u;exact⟨F,z,f,h,w.u z.togh,l z.togh⟩
 have G:r.a[i]?=ab->∀d:fS,J3 g v.c.heap d->v.c.heap.objs.size<=d.objs.size->y9 t r g i c v ab {v.c with heap:=d}:=by intro e d k s;obtain⟨F,z⟩:=R.D (ap:={v.c with heap:=d}) L K M k s;exact⟨F,z,e⟩
 induction I using x' with
 | @y a p e b l=>
   obtain⟨H,n,u,k,_,s⟩:=R.y (N a e) b;cases h:H[i]?with
   |none=>exact nX (wpAny_pyNext_list_end D l ⟨_,u,aa,_,aa⟩ h λd A s=>G (E1 k h) d A s)
   |some q=>obtain⟨f,J,w⟩:=k.af (f:=i) (bE:=q) (by simpa using h);exact wpAny_pyNext_list_item l ⟨_,u,aa,_,aa⟩ h λd B C=>E _ q f J w C aa aa λU=>.y e b B
 | @r b H n e a k l=>
   cases h:H[i]?with
   |none=>exact nX (wpAny_pyNext_tuple_end D l ⟨_,a,aa,_,aa⟩ h λd A s=>G (E1 k h) d A s)
   |some q=>obtain⟨f,J,w⟩:=k.af (f:=i) (bE:=q) (by simpa using h);exact wpAny_pyNext_tuple_item l ⟨_,a,aa,_,aa⟩ h λd B C=>E _ q f J w C aa aa λX=>.r e (X.r _ _ a aa ⟨_,_,aa⟩) (k.u X) B
 | @e5 f n e b l=>
   by_cases a:i<n
   ·refine wpAny_pyNext_range_item l (ck (.Lt .K (.c (.d .a) (.d .e))) (.lt .e .a) a) λd B C=>E _ _ (.e (f+(i:j))) (by rw[b,E0,cP a]) (.e _ _) C aa aa λU=>.e5 e b ?_;rw[<-(lA (jk [_] [_] (.a (.b (.b .a (.d .a)) .r) (.b .a (.d (.b .a .r))))) (jk [_] [_] (.a (.b .a (.d (.b .a .r))) (.b (.b .a (.d .a)) .r))):f+(i:m)+1=f+((i+1:j):m)),<-(lA (jl (.a (.c (.c (.d .a) (.d .e)) .r) (.c (.d .a) (.d (.b .e .r))))) (jl (.a (.c (.d .a) (.d (.b .e .r))) (.c (.c (.d .a) (.d .e)) .r))):(n:m)-(i:m)-1=(n:m)-((i+1:j):m))];exact B
   ·exact nX (wpAny_pyNext_range_end D l (ck (.a (.c (.d .a) (.d .e)) .K) (.b (.lt .e .a)) a) λd A s=>G (by rw[b,E0,ce a]) d A s)
set_option tactic.hygienic true in
theorem Pm (R:bi t c v){i:ae}{g:x}{K:f6->Prop}(j:a1 v i g)(e:kk c g K){Q:ae->b1->Prop}
 (q:∀k b (bX:bl),K k->v.c.heap.objs.size<=b->b<bX.c.heap.objs.size->¬T bX b->hr bX k b 0->bi t c bX->cA d3 v bX->Q (.ref b) bX.c):
 bL t.a a8 (pyIter i) Q cb v.c:=by
 induction g using eh<;>first|exact e.elim|skip
 case r l=>refine j.ab λa s n d m u=>?_;have G:=hS v.c.heap {cls:=.type "tuple_iterator",data:=.fields #[.ref a,.int 0 0]};exact bd (R.u (ap:={v.c with heap:=v.c.heap.push {cls:=.type "tuple_iterator",data:=.fields #[.ref a,.int 0 0]}}) G.1 G.2) λh f=>wpAny_pyIter_tuple ⟨_,d,aa,_,aa⟩ (q _ _ ⟨_,v.a⟩ e (br _) (gz (ji _ aa)) (R.C (br _)) (.r aa (G.1 _ _ d) (m.u (f d3).togh) ⟨_,ji _ aa,aa,aa⟩) h (f _))
 case c a=>
  refine j.X λp r=>d4 e λo w e=>?_;induction o using hf<;>first|exact e.elim|skip
  refine gG (R.y w r) λs n d m y u=>?_;have G:=hS v.c.heap {cls:=.type "list_iterator",data:=.fields #[.ref p.1,.int 0 0]};exact bd (R.u (ap:={v.c with heap:=v.c.heap.push {cls:=.type "list_iterator",data:=.fields #[.ref p.1,.int 0 0]}}) G.1 G.2) λh f=>wpAny_pyIter_list ⟨_,d,aa,_,aa⟩ (q _ _ ⟨_,v.a⟩ e (br _) (gz (ji _ aa)) (R.C (br _)) (.y aa r ⟨_,ji _ aa,aa,aa⟩) h (f _))
theorem pb (h:bL t.a a8 o9 (qe t hm aD cO v pc) cb v.c)
 (f:∀c g (i:bl),dV t aD cO c i->bi t g i->cA hm v i->pc c g->i7 ⟨⟩ i.c):bL t.a a8 o9 i7 dN v.c:=
 hx h (λk e z=>by obtain⟨c,g,j,a,b,t,d⟩:=z;exact f c g ⟨e,j⟩ a b t d) λa a e=>e.elim
def E3 (S:cA hm v bX)(z:bL t.a a8 o9 (qe t hm aD cO bX pc) cb ap):
 bL t.a a8 o9 (qe t hm aD cO v pc) cb ap:=
 hx z (λc c y=>by obtain⟨e,bb,f,a,b,t,d⟩:=y;exact⟨e,bb,f,a,b,S.y t,d⟩) λc c e=>e
def jU (a:cQ)(k:ia a)(b:da)(e:ay)(r:dn):Prop:=
 ∀n {a8:eb}{aD:cU}{X:ac->Prop}{ax:aS}{c:Z}{v:bl}{d:ae}{f:x}{Q:aS->bI},f8 a b aD->gU k.y a8->vU aD X b.cells->dV a aD b.b ax v->bi a c v->a1 v d f->
  (ez a k n).c r f ax c Q->bL a.a a8 (rk e aD d) (qe a X aD b.b v Q) cb v.c
theorem Pn (d:∀e r,n2 e=O r->(∃a p,e=.Starred a p)->c8){b:cU}:∀{a:n ay}{c:n dn},cl n2 a=O c->assignEach a b=a.map λe=>(aN,rk e b):=by
 intro a;induction a with
 |nil=>intro f f;rfl
 |cons e a f=>intro c h;refine d0 (jT h) ?_;rintro r c g i rfl;induction e using jJ<;>first|(show _::assignEach a b=_;rw[(f i)];rfl)|exact(d _ _ g ⟨_,_,aa⟩).elim
theorem Po (u:∀e r,n2 e=O r->jU t aA R e r){A:eb}{b:cU}{X:ac->Prop}(K:f8 t R b)(B:gU aA.y A)(W:vU b X R.cells)(p:j):
 ∀{f:n ay}{g:n dn}{ax:aS}{c:Z}{v:bl}{d:n ae}{i:E}{k:aS->bI},cl n2 f=O g->dV t b R.b ax v->bi t c v->bp v d i->D1 (ez t aA p) g i ax c k->
  bL t.a A (Cm (f.map λe=>rk e b) d) (qe t X b R.b v k) cb v.c:=by
 intro f;induction f with
 |nil=>intro g ax c v d i k e F o m h;replace e:=aY e;subst e;refine bd (tk h) ?_;rintro rfl h;exact cX ⟨ax,c,v.a,F,o,cA.D _ _,h⟩
 |cons e f w=>
  intro g ax c v d i k y F o m h;refine d0 (jT y) ?_;rintro r g z C rfl;induction m using sM with
  |l=>exact h.elim
  | @a D x d i m G=>show bL _ _ (do me d (rk e b D);Cm (f.map λe=>rk e b) d) _ _ _;exact bh (eE (pb (u e r z p K B W F o m h) λx x x H I s q=>E3 s (w C H I (G.u s.togh) q)))
theorem Pp (e:qm R a9=O fb):jU t aA R (.Name a9 cE) fb:=by
 intro n a8 aD X ax c v l x Q K B W F f g q;induction n using dx with
 |zero=>exact q.elim
 |succ n=>
  rw[arm_assign_Name];refine bh (j' (bindName_ ?_));obtain⟨h,j,b⟩:=c6 e;cases h
  case «local»=>obtain⟨i,d,rfl⟩:=dQ (show(hE R.b a9).map dn.s=O fb from b);exact tu W F f (o' d) g q λa=>by rw[tE K j]at a;replace a:=aY a;injection a
  case cell=>refine bd (fq (show d5 R.cells ((hE R.b a9).map dn.s)=O fb from b)) λa k=>?_;obtain⟨i,d,rfl⟩:=dQ k;exact tu W F f (o' d) g q λl=>a
  all_goals injection b
theorem Pq (T:d9 t){o:ay}{a:aH}{x:av}{e:b0}(f:cm t aA R o x)(g:e2 a<L eF):jU t aA R (.Attribute o a e) (.x x (e2 a)):=by
 intro n a8 aD X ax c v u x Q K B W F h i q;induction n using dx with
 |zero=>exact q.elim
 |succ n=>rw[arm_assign_Attribute];refine bh (eE (bw (f n K B F h q) λu z u u j k b l=>bh (j' (bh (eE ?_)))));have d:=NP (a8:=a8) T k j (i.u b.togh) l;rw[oU g]at d;refine vY d λm p r s w=>?_;have S:=b.y s;exact x7 ⟨ax,m,p.a,F.e S,r,S.eG,w⟩
theorem Pr (d:cm t aA R aG bV)(e:cm t aA R cF ip):jU t aA R (.Subscript aG cF cE) (.bz bV ip):=by
 intro n a8 aD X ax c v u bV Q K B W F f g q;induction n using dx with
 |zero=>exact q.elim
 |succ n=>rw[arm_assign_Subscript];refine bh (eE (bw (d n K B F f q) λu z u u h i a j=>bh (eE (bw (e n K B (F.e a) i j) λu u u u k l b m=>bh (j' (bh (eE (vY (NL l B.line (h.u b.togh) k (g.u (a.y b).togh) m) λo p r s w=>?_))))))));have S:=(a.y b).y s;exact x7 ⟨ax,o,p.a,F.e S,r,S.eG,w⟩
theorem Ps (g:cm t aA R aG bV)(h:nZ cF=O f):jU t aA R (.Subscript aG cF cE) (.B bV f):=by
 refine i0 (yV h) ?_;rintro s a p rfl rfl a;intro n a8 aD X ax c v a bV Q K B W F i k q;induction n using dx with
 |zero=>exact q.elim
 |succ n=>rw[arm_assign_Subscript];refine bh (eE (bw (g n K B F i q) λu z a d l m e o=>bh (eE (Ci (bh (j' (bh (eE (bd (m.same (ap:={d.c with toks:=d.c.toks+1}) aa) λr b=>?_)))))))));have b:=b d3;refine vY (Ei r (l.u b.togh) (k.u (e.y b).togh) o) λw x y A C=>?_;have S:=(e.y b).y A;exact x7 ⟨ax,w,x.a,F.e S,y,S.eG,C⟩
theorem Pt (l:∀e r,n2 e=O r->jU t aA R e r)(s:∀e r,n2 e=O r->(∃d p,e=.Starred d p)->c8){d:n ay}{f:n dn}{p:j}{u:b0}(g:cl n2 d=O f):jU t aA R (.Tuple d p u) (.r f):=by
 intro h a8 aD X ax c v a x a K B W F w A q;induction h using dx with
 |zero=>exact q.elim
 |succ h=>
  refine A.rN q λC a D m E k a a q=>gj q λi q=>?_;have i:L f=L C:=oI i;rw[arm_assign_Tuple];have G:=kJ k.e;have H:=vZ g;rw[Pn s g];have I:(d.map λe=>(aN,rk e aD)).findIdx? (·.1)=none:=by
   rewrite [List.findIdx?_eq_none_iff]
   intro y b;refine aL (f2.mp b) ?_;rintro z a rfl;rfl
  refine bh (j' ?_);delta unpack;rw[I,(by rw[cj];exact CP [_,_,_,_] [] .a .e (.l .l .s) (.l .e .s) (.l .l .a) [1,1,-1,-1] [1,-1,1,1] i G H:(d.map λe=>(false,assign e aD)).length=D.size)];refine bh (eE (nX (ait B.C ⟨_,E,aa,_,aa⟩ λy z J=>bd (w.u (ap:={v.c with heap:=y}) (λb o e=>z b o (jH (gz e)) e) J) λo b=>?_)));have b:=b d3;rw[(by rw[Ku];rfl:(d.map λe=>(false,assign e aD)).map (·.2)=d.map λe=>assign e aD)];exact E3 b.eG (Po l K B W h g (F.e b) o (k.u b.togh) q)
theorem Pu (a:∀e r,dh e=O r->cm t aA R e r){o i:ay}{r:dn}{d:b0}(e:ql dh o i dn.B dn.bz=O r):jU t aA R (.Subscript o i d) r:=by
 delta ql at e;cases b:nZ i with
 |some m=>rw[b]at e;obtain⟨x,c,rfl⟩:=dQ e;exact Ps (a _ _ c) b
 |none=>rw[b]at e;obtain⟨x,c,f⟩:=c6 e;obtain⟨y,g,rfl⟩:=dQ f;exact Pr (a _ _ c) (a _ _ g)
def Pv (h:iJ dh R f aG=O fb):(∃a p,aG=.Starred a p)->False:=by intro b;refine eO b ?_;clear b;rintro a p rfl;induction f using dx<;>injection h
set_option tactic.hygienic true in
theorem v5 (T:d9 t){f:ay->Q av}(g:∀e r,f e=O r->cm t aA R e r)(n:j):∀(e:ay)(r:dn),iJ f R n e=O r->jU t aA R e r:=by
 induction n with
 |zero=>intro c c h;injection h
 |succ n l=>
  intro e r h;induction e using jJ<;>first|(injection h;done)|skip
  case Name y d=>exact Pp h
  case Attribute o a d=>refine bd (fq (show d5 (g8 (e2 a)) ((f o).map λr=>dn.x r (e2 a))=O r from h)) λm b=>?_;obtain⟨x,p,rfl⟩:=dQ b;exact Pq T (g _ _ p) (qk m)
  case Subscript o i d=>exact bd (fq (show d5 (y0 (qj i)) (ql f o i dn.B dn.bz)=O r from h)) λc b=>Pu g b
  case Tuple k s d=>refine bd (fq (show d5 (e1 (L k) 100) ((cl (iJ f R n) k).map dn.r)=O r from h)) λc b=>?_;obtain⟨u,q,rfl⟩:=dQ b;exact Pt l (λe r h=>Pv h) q
theorem dV.l (F:dV t aD cO ax v)(S:cA hm v bX)(g:∀a,fU aD a->¬hm a):dV t aD cO ax bX:=by have f:∀a,fU aD a->∀o,v.c.heap.get? a=O o->bX.c.heap.get? a=O o:= λa b o e=>S.u a o e (F.d a b).1 (g a b);refine⟨F.f,F.W,λi n e=>(F.b i n e).u f S.togh,F.r,λa b=>?_,F.apart,F.h⟩;refine lL (F.d a b) ?_;intro h j k l;refine bu k λo d=>?_;have e:=f a b o d;exact⟨λm=>h (S.c a (gz d) m),j,⟨o,e⟩,λp c=>by rw[e]at c;replace c:=aY c;subst c;exact l _ d⟩
def qr (a:cQ)(k:ia a)(f:da)(e:ay)(r:nd):Prop:=
 ∀n {a8:eb}{aD:cU}{ax:aS}{c:Z}{v:bl}{Q:f6->bI}{W:ae->b1->Prop},f8 a f aD->gU k.y a8->dV a aD f.b ax v->bi a c v->
  yE (ez a k n) r ax c Q->
  (∀t b g (d:bl),a.b.heap.objs.size<=b->v.c.heap.objs.size<=b->¬T d b->hr d t b 0->bi a g d->cA d3 v d->Q t g->W (.ref b) d.c)->
  bL a.a a8 (gn e aD) (λb d=>bL a.a a8 (pyIter b) W cb d) cb v.c
theorem Pw (h:cm t aA R aG bV):qr t aA R aG (.a bV):=by intro n a8 aD ax c v Q W K B F e q f;exact bw (h n K B F e q) λw x g w i a b j=>Pm a i j λk l m o d w p r s u=>f k l g m (aU a.d d) (aU b.s d) p r s (b.y u) o
def E4 (h:o0 d=af): -(2^62)<=d/\d<2^62:=by have h:=ea h;exact(yj h).imp (λh=>hO (.a (.g (.y (2^62))) .a) (.a .K (.b .a (.y (10^12)))) h) λh=>uQ h ⋯
theorem Px (R:bi t c v)(f:IsRange v.c.heap ak d o 1 jo Py Pz)(g:o0 d=af)(h:o0 o=af)
 (q:∀a (bX:bl),v.c.heap.objs.size<=a->¬T bX a->hr bX ⟨fT d (o-d).toNat,ab⟩ a 0->bi t c bX->cA d3 v bX->dN (.ref a) bX.c):
 bL t.a a8 (pyIter (.ref ak)) dN cb v.c:=by
 have b:=E4 g;have e:=E4 h;have G:=hS v.c.heap {cls:=.type "range_iterator",data:=.fields #[sP d,sP (aiu d o 1),sP 1]};refine bd (R.u (ap:={v.c with heap:=v.c.heap.push {cls:=.type "range_iterator",data:=.fields #[sP d,sP (aiu d o 1),sP 1]}}) G.1 G.2) λi k=>wpAny_pyIter_range f (small_one b.1 b.2 e.1 e.2) (q _ ⟨_,v.a⟩ (br _) (R.C (br _)) (.e5 (n:=(o-d).toNat) (x:=d) aa aa ?_) i (k _));rw[<-(by rw[rangeSize_one];exact Lo:Builtin.Range.rangeSize d o 1=(((o-d).toNat:Nat):Int)-((0:Nat):Int)),<-(lA (k8 (.a .a (.b .a (.d .K)))) (k8 (.a (.b .a (.d .K)) .a)):d=d+((0:j):m))];exact ji _ aa
theorem PA (C:hU t aA R dh){x:aH}{p D:b0}{E:n ay}{G:n av}
 (S:ju R x=O .e5)(e:cl dh E=O G):qr t aA R (.Call (.Name x p) E [] D) (.e5 G):=by
 intro T a8 aD ax c v U W K B F H h w;refine c9 (qp K S) λV X Y=>x8 (nj H F.f K.h X Y V λu s=>?_);have s:u=.type "range":=s;subst s;refine Ck (v3 C e) (tG C K B T (u:=D) (D:=.type "range") (W:= λd b=>bL t.a a8 (lD (.type "range") ([]++d.pos) d.kw) (λf b=>bL t.a a8 (pyIter f) W cb b) cb b) e F H h
  (λb b I f Z CS J q=>?_))
 have L:∀{r:ac}{d b:m}{y u M:Tok}{o:g3}{z:j},o0 d=af->o0 b=af->IsRange (f.c.heap.push o) r d b 1 y u M->U ⟨fT d (b-d).toNat,ab⟩ I->
  bL t.a a8 (pyIter (.ref r)) W cb {f.c with heap:=f.c.heap.push o,toks:=z}:=by
  intro r d b y u M o z A g i OL;refine bd (CS.u (ap:={f.c with heap:=f.c.heap.push o,toks:=z}) (hS _ _).1 (hS _ _).2) λN k=>?_;have k:=k d3;exact Px N i A g λajl ajm P ajn ajo ajp ajq=>w _ ajl I ajm (aU N.d P) (aU (J.y k).s P) ajn ajo ajp ((J.y k).y ajq) OL
 induction Z using sM with
 |l=>exact q.elim
 |a P i=>
  refine P.y q λd y N=>?_;induction i using sM with
  |l=>exact gj N λg k=>call_range_1 (L (d:=0) (b:=d) ⋯ g (IsRange.new ..) (by simpa using k))
  |a OL i=>refine bd (tk N) ?_;rintro rfl k;refine OL.y k λb u ajl=>gj ajl λA ajm=>gj ajm λg ajn=>?_;cases i;exact call_range_2 (L (d:=d) (b:=b) A g (IsRange.new ..) ajn)
theorem PB (I:hr v fG ak f)(q:dN (.ref ak) v.c):bL t.a a8 (pyIter (.ref ak)) dN cb v.c:=by
 induction I using x' with
 |y _ _ a=>exact wpAny_pyIter_listiter a q
 |r _ _ _ a=>exact wpAny_pyIter_tupleiter a q
 |e5 _ _ a=>exact wpAny_pyIter_rangeiter a q
theorem E5 (I:hr v fG ak f)(q:i7 ⟨⟩ v.c):bL t.a a8 (letOwnedTupleGo aG (.ref ak) bE) i7 cb v.c:=by
 have b:∃o n e,v.c.heap.get? ak=O o/\o.cls=.type n/\o.data=.fields e/\ ["enumerate","zip","dict_itemiterator","dict_reverseitemiterator","odict_iterator","itertools.zip_longest","itertools.pairwise"].contains n=false:=by
  induction I using x' with
  |y _ _ a=>exact dU a λo c b d=>⟨o,_,_,c,b,d,⋯⟩
  |r _ _ _ a=>exact dU a λo c b d=>⟨o,_,_,c,b,d,⋯⟩
  |e5 _ _ a=>exact⟨_,_,_,a,aa,aa,⋯⟩
 refine ke b λo n e c b d g=>?_;have h:bL t.a a8 (do
  let(.ref r,.ref a):=(Value.ref ak,bE)|return
  let o<-load r
  match o.cls,o.data with
  |.type n,.fields e=>
   if["enumerate","zip","dict_itemiterator","dict_reverseitemiterator","odict_iterator","itertools.zip_longest","itertools.pairwise"].contains n&&e[0]?==O (sP a)then
    rule "for.unpacks-the-owned-tuple"
    updateField r 0 .none
  |_,_=>dk ⟨⟩) i7 cb v.c:=by
  cases bE with
  |ref a=>refine bh (wpAny_load c ?_);rw[b,d];dsimp only;rw[g,Bool.false_and,ce ⋯];exact cX q
  |_=>exact cX q
 induction aG using jJ<;>first|exact cX q|exact h
end
def jV (b:cU)(l:n (aH×h5))(a:n (aH×ac)):n (aH×ac):=l.rec (motive:= λc=>n (aH×ac)->n (aH×ac)) id (λp c f a=>f (if p.2==.free then(p.1,(b.cells.lookup p.1).getD 0)::a else a)) a
theorem PC (h:∀b,b∈fN ll.names->∃a,aD.cells.lookup b=O a):closureFor ll aD=dk (jV aD ll.names []):=by
 have i:∀(l:n (aH×h5))(c:n (aH×ac)),(∀b,b∈fN l->∃a,aD.cells.lookup b=O a)->
  (forIn l c λ(x:aH×h5)(c:n (aH×ac))=>(do
   if x.2==.free then(do let a<-cellOf aD x.1;dk (vc ((x.1,a)::c)))else dk (vc c):hg _))=dk (jV aD l c):=by
  intro l;induction l with
  |nil=>intro c d;rfl
  |cons p l f=>
   intro c h;obtain⟨b,k⟩:=p;rw[Kx];by_cases d:(k==sQ)=af
   ·refine bu (h b (by simp[fN,d])) λa g=>?_;simp only[d,u0,(by unfold cellOf;rw[g]:(cellOf aD b:Sem Addr)=pure a),Cn];rw[f _ λm e=>h m (by simp only[fN]at e⊢;rw[vd,cP d];exact dy _ e)];simp[jV,d,g]
   ·simp only[d,nF,Cn,u2];rw[f _ λm e=>h m (by simp only[fN]at e⊢;rw[vd,ce d];exact e)];simp[jV,d]
 delta closureFor;simp only[bind_pure];rw[<-(i ll.names [] h)]
theorem PD:∀{d:n (aH×ac)}{c:aH}{a:ac},(∀c,c∈fN kn->∃a,aD.cells.lookup c=O a)->(∀m b,d.lookup m=O b->aD.cells.lookup m=O b)->
 (jV aD kn d).lookup c=O a->aD.cells.lookup c=O a:=by
 induction kn with
 |nil=>intro d c a f h e;exact h c a e
 |cons p r l=>
  intro d c a j h e;obtain⟨m,k⟩:=p;by_cases g:(k==sQ)=af
  ·have e:(jV aD r (if k==sQ then(m,(aD.cells.lookup m).getD 0)::d else d)).lookup c=O a:=e;rw[cP g]at e;refine l (λc i=>j c (by simp only[fN]at i⊢;rw[vd,cP g];exact dy _ i)) (λo b f=>?_) e;rw[lG]at f;by_cases q:(o==m)=af
   ·rw[q]at f;refine bu (j m (by simp[fN,g])) λa s=>?_;rw[s]at f;replace f:=aY f;subst f;rw[k4 q];exact s
   ·rw[Co]at q;rw[q]at f;exact h o b f
  ·have e:(jV aD r (if k==sQ then(m,(aD.cells.lookup m).getD 0)::d else d)).lookup c=O a:=e;rw[ce g]at e;exact l (λc i=>j c (by simp only[fN]at i⊢;rw[vd,ce g];exact i)) h e
theorem PE:∀{b:n (aH×ac)}{a:aH},(a∈fN kn\/(b.lookup a).isSome=af)->((jV aD kn b).lookup a).isSome=true:=by
 induction kn with
 |nil=>intro b a h;exact h.elim (λh=>by cases h) id
 |cons p r d=>
  intro b a h;obtain⟨m,e⟩:=p;refine d (a:=a) ?_;by_cases c:(e==sQ)=af
  ·rw[cP c];rcases h with h|h
   ·simp only[fN,vd,c,u0,oz]at h;rcases fw.mp h with rfl|h
    ·exact .inr (by simp)
    ·exact .inl h
   ·refine .inr ?_;rw[lG];by_cases q:(a==m)=af
    ·rw[q];rfl
    ·rw[Co]at q;rw[q];exact h
  ·rw[ce c];rcases h with h|h
   ·exact .inl (by simpa only[fN,vd,c,nF,u2]using h)
   ·exact .inr h
theorem E6 (l:n (aH×h5))(a:aH):(tz l).lookup a=(l.lookup a).map λk=>if k==.free then .cell else k:=by
 induction l with
 |nil=>rfl
 |cons p r c=>
  obtain⟨m,b⟩:=p;refine(?_:Cp a ((m,if b==.free then .cell else b)::tz r)=(Cp a ((m,b)::r)).map _);rw[lG,lG];by_cases q:(a==m)=af
  ·rw[q];rfl
  ·rw[Co]at q;rw[q];exact c
theorem E7 (a:(kn.map (·.1)).Nodup)(h:(a9,rU)∈kn):kn.lookup a9=O rU:=by
 induction kn with
 |nil=>cases h
 |cons p r b=>
  obtain⟨m,j⟩:=p;rw[oz,pL]at a;rw[lG];rcases fw.mp h with e|h
  ·cases e;simp
  ·by_cases q:(a9==m)=af
   ·exact b6 (f2.mpr ⟨_,h,(k4 q)⟩) a.1
   ·rw[Co]at q;rw[q];exact b a.2 h
def E8 (h:a9∈fN kn):(a9,sQ)∈kn:=by
 refine aL (f2.mp h) ?_;rintro b a rfl;obtain⟨m,k⟩:=b;rw[rl]at a;have:k=.free:=by simpa using a.2
 subst this;exact a.1
def PF:im (M::ax) (f+1)=im ax f:=aa
theorem E9:im (ax++v6) f=if f<L ax then im ax f else im v6 (f-L ax):=by
 induction ax generalizing f with
 |nil=>simp
 |cons a ax b=>cases f with
  |zero=>rw[hM,cP (vb _)];rfl
  |succ f=>simp only[List.cons_append,PF,hM,b,Nat.add_lt_add_iff_right,Nat.add_sub_add_right]
def E':im (iW f ab) z=none:=by
 induction f generalizing z with
 |zero=>induction z using dx<;>rfl
 |succ f a=>induction z using dx with
  |zero=>rfl
  |succ z=>exact a
def PG:im (p7 ax aC) f=(aC[f]?).bind λi=>im ax i:=by
 induction aC generalizing f with
 |nil=>induction f using dx<;>rfl
 |cons i r a=>induction f using dx with
  |zero=>rfl
  |succ f=>exact a
theorem Fa (e:cl f7 ct=O iI) (h:ct[f]?=O bW):∃b,iI[f]?=O b/\f7 bW=O b:=by
 induction ct generalizing iI f with
 |nil=>simp at h
 |cons x r a=>
  refine d0 (jT e) ?_;rintro b l c d rfl;induction f using dx with
  |zero=>simp at h;subst h;exact⟨b,aa,c⟩
  |succ f=>exact aL (a (f:=f) d (by simpa using h)) λg i k=>⟨g,by simpa using i,k⟩
theorem PH (h:mx aG bW qg=b8)(n:bW=b8->hF aG)(k:∀x p,qg x p=b8->hF (.Name x p)):hF aG:=by
 by_cases q:aG.ctorIdx=23
 ·exact x1 (motive_1:= λaG=>∀c:aG.ctorIdx=23,x1 aG c qg=b8->hF aG) aG q (λx p a h=>k x p h) q ((oE q).symm.trans h)
 ·exact n ((oF q).symm.trans h)
theorem Fb (b:iJ dh R (f+1) aG=O fb)(a:yX aG=O cO):o1 fb=L cO:=by
 have k:∀{x},qm R x=O fb->o1 fb=1:= λ{x} e=>by
  refine aL (jG.mp e) λh d c=>?_;induction h using Cj<;>first|(injection c;done)|skip
  ·exact aL (h3.mp c) λi d q=>q▸aa
  ·exact aL (h3.mp (fq c).2) λi d q=>q▸aa
 revert b;refine PH (hF:= λaG=>iJ dh R (f+1) aG=O fb->o1 fb=L cO) a (λa=>yS (hF:= λaG=>iJ dh R (f+1) aG=O fb->o1 fb=L cO) a o7 λg h p a b=>bd (fq (show d5 (e1 (L g) 100) ((cl (iJ dh R f) g).map dn.r)=O fb from b)) λd c=>aL (h3.mp c) λl i q=>?_) λx p a b=>(k b).trans (aY a▸aa);rw[<-q];refine(?_:L l=_);rw[vZ i,vZ (show cl ty g=O cO from a)]
structure n3 (R gW:da)(i:ay)(e:iX)(g:n aH):Prop where
 names:yX i=O g
 gK:1<=L g
 f:e.kind=.function
 d:(g++fN e.names).Nodup
 v7:(e.names.map (·.1)).Nodup
 h:∀t,t∈g->e.names.lookup t=O .local
 b:e.isCoroutine=aN
 c:e.isGenerator=aN
 a:∀p,p∈e.names->p.2≠.cell/\(p.2=.free->R.f.lookup p.1=O .cell)
 l:gW={f:=tz e.names,b:=g++fN e.names,h:=R.h,a:=R.a,cells:=aN}
theorem Fc (e:vX R aG ll=O gW):∃a,n3 R gW aG ll a:=by
 obtain⟨a,b,e⟩:=c6 e;refine bd (fq e) λh e=>?_;replace e:=aY e;subst e;simp only[EF,fu,k2,mZ,sR]at h;refine bd h ?_;clear h;intro c d;refine bd c λf g=>bd f λi j=>bd i λk l=>bd k λm o=>bd m λq r=>bd q λs u=>?_;refine⟨a,b,ea l,s,u,r,λt v=>by simpa using o t v,j,g,λp w=>?_,aa⟩;have:=d p w;obtain⟨n,x⟩:=p;induction x using Cj<;>simp[EE]at this⊢
 exact this
theorem rY (F:dV t aD R.b ax v)(K:f8 t R aD){g:ay}{d:iX}{h:n aH}{k:cd}(l:n3 R gW g d h)(m:cl (hE R.b) (fN d.names)=O k){b:aH}(e:b∈fN d.names):
 aD.kindOf b=O .cell/\∃a,aD.cells.lookup b=O a:=by
 have f:aD.kindOf b=O .cell:=by unfold Env.kindOf;rw[K.f];exact(l.a _ (E8 e)).2 aa
 refine⟨f,bu (sS e) λj o=>aL (Fa m o) λi j p=>?_⟩;rcases F.b i b (o' p)with⟨c,_⟩|⟨_,a,_,q,_⟩
 ·rw[f]at c;replace c:=aY c;injection c
 ·exact⟨a,q⟩
theorem y' (c:aD.scope.kind=.function){a:iX}(h:∀n,n∈fN a.names->aD.kindOf n=O .cell):(relabel a aD).names=tz a.names:=by
 apply ais;intro d e;obtain⟨n,f⟩:=d;dsimp only;by_cases b:(f==sQ)=af
 ·simp[b,c,h n (f2.mpr ⟨_,rl.mpr ⟨e,b⟩,aa⟩)]
 ·simp[b]
theorem PI (F:dV t aD R.b ax v)(K:f8 t R aD){c:ay}{a:iX}{d:n aH}{f:cd}(b:n3 R gW c a d)(g:cl (hE R.b) (fN a.names)=O f)(C:ac)(h:n (aH×ac)):
 f8 t gW (sT a h C aD):=by
 have e:=b.l;subst e;exact⟨y' F.f λj i=>(rY F K b g i).1,K.h⟩
theorem PJ (F:dV t aD R.b ax v)(K:f8 t R aD){D:ay}{d:iX}{k:n aH}{w:cd}(g:n3 R gW D d k)(l:cl (hE R.b) (fN d.names)=O w){C:ac}{m:aH->Q ae}
 (y:v.c.heap.Ns C m)(r:t.b.heap.objs.size<=C)(E:¬T v C)(p:∀c a,aD.cells.lookup c=O a->a≠C):
 dV t (sT d (jV aD d.names []) C aD) gW.b (iW (L k) ab++p7 ax w) v:=by
 have e:=g.l;subst e;have q:∀c a,(jV aD d.names []).lookup c=O a->aD.cells.lookup c=O a:= λc a e=>PD (λc p=>(rY F K g l (b:=c) p).2) (λA A e=>by injection e) e;have B:∀c,(sT d (jV aD d.names []) C aD).kindOf c=(d.names.lookup c).map λaA=>if aA==.free then .cell else aA:= λc=>by refine(?_:(relabel d aD).names.lookup c=_);rw[(y' F.f λc p=>(rY F K g l p).1),E6]
 refine⟨g.f,?_,λi c h=>?_,g.d,λa f=>?_,λc a e=>p c a (q c a e),λc a G H e I=>F.h c a G H (q _ _ e) (q _ _ I)⟩
 ·refine(?_:L (iW (L k) ab++p7 ax w)=L (k++fN d.names));rw[a6,a6,Ky];unfold p7;rw[cj,vZ l]
 ·have h:(k++fN d.names)[i]?=O c:=h;rw[E9,Ky];by_cases o:i<L k
  ·rw[cP o,E'];rw[ek o]at h;refine .inl ⟨?_,m,y,by trivial⟩;rw[B,g.h c (jK h)];rfl
  ·rw[ce o];rw[hh (lC o)]at h;refine aL (Fa l h) λj z J=>?_;have x:=jK h;rw[PG,z];rcases F.b j c (o' J)with⟨s,_⟩|⟨_,a,M,f,N,u⟩
   ·rw[((rY F K g l x).1)]at s;replace s:=aY s;injection s
   ·refine .inr ⟨?_,a,M,?_,N,u⟩
    ·rw[B,E7 g.v7 (E8 x)];rfl
    ·have:=PE (aD:=aD) (kn:=d.names) (b:=[]) (.inl x);refine bu (Kz.mp this) λb r=>?_;have:=q _ _ r;rw[f]at this;replace this:=aY this;subst this;exact r
 ·rcases f with f|⟨c,f⟩
  ·have f:a=C:=f;subst f;exact i0 y λo x x u j A=>⟨E,r,⟨o,u⟩,λx b=>by rw[u]at b;replace b:=aY b;subst b;intro s;refine eO s λx c z=>?_;rw[j]at z;cases z⟩
  ·exact F.d a (.inr ⟨c,q c a f⟩)
noncomputable def v8 (a:cU)(c:ay)(r:bm):hg (ForInStep bm):=if r=af then do let b<-u9 c a (gn c a);dk (vc b)else dk (vc r)
def PK (a:n ay):(forIn a aN (v8 aD):hg bm)=dk false:=by
 induction a with
 |nil=>rfl
 |cons t r b=>rw[Kx];rw[(show v8 aD t aN=dk (vc aN)from aa),Cn];exact b
theorem PL (p:∀e r,dh e=O r->hq t aA R e r){A:eb}{a:cU}{L:aS}(K:f8 t R a)(B:gU aA.y A)(m:j):
 ∀{c:n ay}{d:n av}{H:Z}{g:bl}{f:fp},cl dh c=O d->dV t a R.b L g->bi t H g->tn (ez t aA m) .And d L H f->
  bL t.a A (forIn c af (v8 a)) (mr t g f) cb g.c:=by
 intro c;induction c with
 |nil=>intro d H g f e F i q;replace e:=aY e;subst e;exact cX (n0 i (cA.D _ _) q)
 |cons h c s=>
  intro d H g f e F i q;refine d0 (jT e) ?_;rintro r w u v rfl;rw[Kx];rw[(show v8 a h af=(do let b<-u9 h a (gn h a);dk (vc b))from aa)];refine bh (bh (nk (p h r u m K B F i q) λb w w o k l=>cX ?_));induction b using fD with
  |false=>dsimp only at l⊢;rw[PK];exact cX (n0 o k l)
  |true=>exact tD k (s v (F.e k) o l)
structure za (t:cQ)(R:da)(h:cU)(L:aS)(a:f6)(f C:ac)(k:bl)(i:j)(H:Z)(g:bl):Prop where
 a:hr g a f i
 c:dV t h R.b L g
 d:bi t H g
 hk:cA (λb=>b=C\/b=f) k g
 ns:∃m,g.c.heap.Ns C m
 e:¬T g C
 o8:¬T g f
inductive zb (t:cQ)(R:da)(c:cU)(d:aS)(b:f6)(e C:ac)(f:bl)(P:E->bI)(m:j)(s:b1):Prop
 |mk (a:E)(i:j)(H:Z)(g:n (ac×ac))(h:m=L a)(h:b.a.drop i=a)(I:za t R c d b e C f i H ⟨s,g⟩)(q:P a H)
def PM {d i j:Type}{f g:d->i->j->Prop}(e:f=g){a:d}{b:i}{c:j}(h:g a b c):f a b c:=e▸h
@[elab_as_elim]def zc {a:Sort _}{P:a->Prop}(e:a)(k:∀x,e=x->P x):P e:=k e aa
theorem PN (F:dV t aD R.b ax v)(K:f8 t R aD)(a:n3 R gW aG ll cO)(e:cl (hE R.b) (fN ll.names)=O aC)
 (f:dV t (sT ll (jV aD ll.names []) ak aD) gW.b v6 bX):∃m,bX.c.heap.Ns ak m:=by
 have d:0<L cO:=a.gK;have c:gW.b[0]?=O cO[0]:=by rw[a.l];simp[ek,d]
 refine gQ (f.b 0 _ c) (λh=>h.2.imp λm h=>h.1) λh=>?_;have b:(relabel ll aD).names.lookup cO[0]=O NameKind.cell:=h.1;rw[y' F.f λg c=>(rY F K a e c).1,E6,a.h _ (KA d)]at b;injection b with b;injection b
theorem PO (aj6:d9 t){f:ay->Q av}{ajp Y ajz:ay}{ajq:n ay}{D:iX}{ajA:b0}{x:av}{k:dn}{ajB:n av}{ajC:n aH}{ajD:cd}
 (aj7:cm t aA gW ajp x)(aj8:jU t aA gW Y k)(aj9:∀e r,f e=O r->hq t aA gW e r)(aka:cl f ajq=O ajB)
 (ajr:n3 R gW Y D ajC)(ajE:cl (hE R.b) (fN D.names)=O ajD)(M:j)
 {A:eb}{w:cU}{U:aS}{CS:bl}(K:f8 t R w)(B:gU aA.y A){l:f6}{c C:ac}{N:j}{ajs:ac×ac} (akb:CS.a[N]?=O ajs) {ajN:Result->b1->Prop}{V:bI}
 (ajO:C≠c)(ajF:∀a,fU w a->a≠C/\a≠c)(akc:t.b.heap.objs.size<=C)(akd:t.b.heap.objs.size<=c)
 (ake:∀H (g:bl),dV t w R.b U g->bi t H g->cA (λb=>b=C\/b=c) CS g->(∃m,g.c.heap.Ns C m)->¬T g C->V H->ajN (.ok .next) g.c)
 {p:E}{i:j}{H:Z}{g:bl}(OL:l.a.drop i=p)(I:za t R w U l c C CS i H g)(q:hn (ni (ez t aA M) x k ajB (iW (L ajC) ab++p7 U ajD)) l N p H V):
 codeAny t.a A (.compLoop (.ListComp ajp [⟨Y,ajz,ajq,0⟩] D ajA) 0 (.ref c) (.ref ajs.1) (sT D (jV w D.names []) C w)) ajN g.c:=by
 revert q;refine zc (ni (ez t aA M) x k ajB (iW (L ajC) ab++p7 U ajD)) λajt akf q=>zc (sT D (jV w D.names []) C w) λajP aju=>codeAny_loop aa (zb t R w U l c C CS λp H=>hn ajt l N p H V) ?_ (L p) (.mk p i H g.a aa OL I q);clear OL I q g H i p;intro m s J;induction J using zb.casesOn with|mk p i H ajl ajQ OL I q=>
 induction I using za.casesOn with|mk I F akg S akh ajR ajS=>
 refine bu akh λajT ajU=>?_;show bL _ A ((compTurn (.ListComp ajp [⟨Y,ajz,ajq,0⟩] D ajA) 0 (.ref c) (.ref ajs.1) ajP).onRaise (λx=>do noteFrame x _;theTreesLotGoes x)) _ _ s;refine wpAny_noted ?_;rw[compTurn_list];refine zc (Expr.ListComp ajp [⟨Y,ajz,ajq,0⟩] D ajA) λakB d=>?_;have ajV:c<s.heap.objs.size:=aL I.e λo ajm d=>gz ajm;have ajG:C<s.heap.objs.size:=nJ ajU λo ajH ajI ajm d=>gz ajm;refine bh (j' (bh (hx (E2 akg B.C I (by induction p using cv<;>exact(rX q).1:v4 l H) akd ajS) (λr P z=>c9 z λajW G z=>?_) λd d e=>e.elim)));have ajJ:=S.y (G.ab (DK:= λb=>b=C\/b=c) λb q d=>.inr q);have ajv:=F.l G λa ajn e=>(ajF a ajn).2 e;have ajX:P.heap.Ns C ajT:=nJ ajU λo ajH ajI ajm r=>⟨o,ajH,ajI,G.u _ _ ajm ajR ajO,r⟩;have ajw:¬T ⟨P,ajl⟩ C:= λk=>ajR (G.c C ajG k);have ajY:¬T ⟨P,ajl⟩ c:= λk=>ajS (G.c c ajV k);induction r using gA with
 |none=>rw[show p=[]from OL.symm.trans (aiv (Kw.mp z))]at q;exact cX (ake H ⟨P,ajl⟩ ajv ajW ajJ ⟨ajT,ajX⟩ ajw (rX q).2)
 |some v=>
  refine dU z λy aki akj ajZ=>?_;rw[((cs.mp aki).elim λakk e=>OL.symm.trans ((aiw akk).trans (cp (·::_) e)))]at q ajQ;refine bh (hx (E5 (v:=⟨P,ajl⟩) (i7:= λd s=>s=P) ajZ aa) (λd akC e=>?_) λd d e=>e.elim);rw[e];have ajK:=aju▸PI ajv K ajr ajE C (jV w D.names []);refine bh (pb (v:=⟨P,ajl⟩) (aj8 M (X:= λb=>b=C) ajK B ⟨aju▸aa,λe=>by rw[(by rw[ajr.l]:gW.cells=false)]at e;cases e⟩ (aju▸PJ ajv K ajr ajE ajX akc ajw λM a ajn=>(ajF a (.inr ⟨M,ajn⟩)).1) ajW akj (PM akf (rX q).2)) λakD akE aj0 ajL akl ajM akm=>bh (nk (PL aj9 ajK B M (a:=ajP) aka ajL akl akm) λb akn ako aj1 ajx aj2=>?_));have next:∀(ajy:Z)(ajo:bl),bi t ajy ajo->cA d3 aj0 ajo->hn ajt l N (l.a.drop (i+1)) ajy V->∃aj3,aj3<m/\zb t R w U l c C CS (λp H=>hn ajt l N p H V) aj3 ajo.c:=by
   intro ajy ajo akp aj4 akq;have W:=ajM.y (aj4.eG (hm:= λb=>b=C));have akr:¬T aj0 C:= λk=>ajw (ajM.c C (iT ajG G.s) k);rw[ajQ];exact⟨_,hi _,.mk _ (i+1) ajy ajo.a aa aa ⟨ajZ.u (λo e=>W.u c o e ajY (sU ajO)) W.togh,ajv.l W λa ajn e=>(ajF a ajn).1 e,akp,ajJ.y (W.ab λb q d=>.inl q),
    (PN F K ajr ajE (ak:=C) (by rw[aju];exact ajL)).imp λm h=>h.imp λo h=>h.imp λajH h=>h.imp λajI h=>⟨aj4.u _ _ h.1 akr λq=>q,h.2⟩,λk=>ajw (W.c C (iT ajG G.s) k),λk=>ajY (W.c c (iT ajV G.s) k)⟩ akq⟩
  induction b using fD with
  |false=>exact cX ⟨aa,next akn ako aj1 ajx aj2⟩
  |true=>
   refine bh (bh (bw (aj7 M ajK B (ajL.e ajx) aj1 aj2) λu z akF akG aks akt aj5 aku=>?_));have akv:=En (a8:=A) aj6 akt B.line (C:=aA.a) (k:=.i) (u:=.ref ajs.1) (I:=.c N) (S:=[u]) (U:=[z]) (Q:= λd H=>hn ajt l N (l.a.drop (i+1)) H V)
    (.c ((ajx.y aj5).l _ _ (ajM.l _ _ (ajJ.l _ _ akb)))) (.a aks .l) (λf e=>by injection e) aku
   exact bh (bw akv λd d akw akx d aky akz akA=>cX (cX ⟨aa,next akw akx aky ((ajx.y aj5).y akz) akA⟩))
theorem Fd (ajO:d9 t){f:ay->Q av}{CS P E:ay}{OL:n ay}{u:iX}{ajw ajP:b0}{x:av}{w:dn}{ajx:nd}{ajy:n av}{ajz:n aH}{ajA:cd}
 (ajQ:cm t aA gW CS x)(ajR:jU t aA gW P w)(ajS:qr t aA R E ajx)(ajT:∀d x,ve E d x=dk x)(ajU:∀e r,f e=O r->hq t aA gW e r)(ajV:cl f OL=O ajy)
 (z:n3 R gW P u ajz)(ajB:cl (hE R.b) (fN u.names)=O ajA)(ajl:o1 w=L ajz)(G:j)
 {A:eb}{d:cU}{S:aS}{H:Z}{g:bl}(K:f8 t R d)(B:gU aA.y A){ajm:bg}{ajn:Q (ae->hg mX)}{W:ae->b1->Prop}(F:dV t d R.b S g)(ajW:bi t H g)
 (q:vH t.P aA.a (ez t aA G) (.H x w ajA ajx ajy) S H ajm)
 (ajX:∀ajC (ajD:ac×ac) C U (l:bl),l.a[ajC]?=O ajD->dV t d R.b S l->bi t U l->cA d3 g l->(∃m,l.c.heap.Ns C m)->¬T l C->t.b.heap.objs.size<=C->g.c.heap.objs.size<=C->(∀a,fU d a->a≠C)->ajm (.c ajC) U->
  compPost t.a A cb ajn W (.ref ajD.1) C (.ok .next) l.c):
 bL t.a A (comprehension (.ListComp CS [⟨P,E,OL,0⟩] u ajw) u d ajP (newList []) aN (gn E d) ajn) W cb g.c:=by
 have ajo:∀a,fU d a->a<g.c.heap.objs.size:= λa m=>by refine lL (F.d a m) ?_;intro D D b D;exact bu b λo ajp=>gz ajp
 refine wpAny_comprehension_free aa (ajT d) (PC (λG ajl=>(rY F K z ajB (b:=G) ajl).2)) z.f (λx ajq V=>E7 z.v7 (by obtain⟨a,b⟩:=x;simpa [<-show b=.local from V]using ajq)) (ajS G K B F ajW q λajr J M c ajY ajE ajZ I N ajF aj0=>wpAny_newObj_type (wpAny_newFunctionEnv (λx ajq=>(z.a x ajq).1) (by intro y h;simp at h) (λk ajs X=>?_) z.f));dsimp only at ajs X⊢;have ajt:(c.c.heap.push {cls:=.type "list",dict:=ab,data:=.seq ([]:n ae).toArray}).objs.size=c.c.heap.objs.size+1:=oC ..;rw[ajt]at ajs X⊢;have aju:=hS c.c.heap {cls:=.type "list",dict:=ab,data:=.seq ([]:n ae).toArray};obtain⟨aj1,ajG⟩:=N.K (ap:={c.c with heap:=c.c.heap.push {cls:=.type "list",dict:=ab,data:=.seq ([]:n ae).toArray}}) (a:=c.c.heap.objs.size) (o:=.y []) aa (br _) aju.1 aju.2 (by rw[ajt];exact hi _)
  (λD=>⟨#[],0,ji _ aa,.l,⋯⟩)
 have ajH:∀b o,(c.c.heap.push {cls:=.type "list",dict:=ab,data:=.seq ([]:n ae).toArray}).get? b=O o->k.get? b=O o:= λb o e=>by have y:=gz e;rw[ajt]at y;exact(X.2 b (jH y)).trans (kD _ e)
 have aj2:(c.c.heap.push {cls:=.type "list",dict:=ab,data:=.seq ([]:n ae).toArray}).objs.size<=k.objs.size:=by rw[X.1,oC _ {cls:=.type (if(O d).isSome then"dict" else"frame"),data:=.dict #[]}];exact fJ _
 refine bd (aj1.u (ap:={c.c with heap:=k,toks:=c.c.toks+L ([]:n (aH×ae))}) ajH aj2) λaj3 ajI=>?_;have ajJ:=(ajF.y ajG).y (ajI d3);have ajK:J<c.c.heap.objs.size:=aL I.e λo ajp D=>gz ajp;have Y:g.c.heap.objs.size<=c.c.heap.objs.size:=ajF.s;have ajL:∀{ajv:n (ac×ac)}{b:ac}{ajM:b1},ajv=c.a++[(c.c.heap.objs.size,c.c.heap.objs.size)]->b≠c.c.heap.objs.size->T ⟨ajM,ajv⟩ b->T c b:=by
  rintro ajv b ajM rfl y s;refine gq s λi p e h=>?_;have e:(c.a++[(c.c.heap.objs.size,c.c.heap.objs.size)])[i]?=O p:=e;by_cases q:i<L c.a
  ·rw[ek q]at e;exact⟨i,p,e,h⟩
  ·rw[hh (lC q)]at e;have:=(cs.mp e).1;simp at this;rw[(this:i-L c.a=0)]at e;simp at e;subst e;exact b6 (h.elim id id) y
 have aj4:¬T ⟨{c.c with heap:=k,toks:=c.c.toks+L ([]:n (aH×ae))},c.a++[(c.c.heap.objs.size,c.c.heap.objs.size)]⟩ (c.c.heap.objs.size+1):= λw=>hw.mpr (fJ _) ((N.f _ (ajL aa (Cq _) w)).2);have aj5:¬T ⟨{c.c with heap:=k,toks:=c.c.toks+L ([]:n (aH×ae))},c.a++[(c.c.heap.objs.size,c.c.heap.objs.size)]⟩ J:= λw=>ajZ (ajL aa (jH ajK) w);have i:hr ⟨{c.c with heap:=k,toks:=c.c.toks+L ([]:n (aH×ae))},c.a++[(c.c.heap.objs.size,c.c.heap.objs.size)]⟩ ajr J 0:=I.u (λo e=>ajH _ _ (aju.1 _ _ e)) (ajG.y (ajI d3)).togh;have p:(c.a++[(c.c.heap.objs.size,c.c.heap.objs.size)])[L M]?=O (c.c.heap.objs.size,c.c.heap.objs.size):=by rw[<-N.W];simp
 have ajN:codeAny t.a A (.compLoop (.ListComp CS [⟨P,E,OL,0⟩] u ajw) 0 (.ref J) (.ref c.c.heap.objs.size) (sT u (jV d u.names []) (c.c.heap.objs.size+1) d))
  (compPost t.a A cb ajn W (.ref c.c.heap.objs.size) (c.c.heap.objs.size+1)) {c.c with heap:=k,toks:=c.c.toks+L ([]:n (aH×ae))}:=by
  refine PO ajO (R:=R) (U:=S) (CS:=⟨{c.c with heap:=k,toks:=c.c.toks+L ([]:n (aH×ae))},c.a++[(c.c.heap.objs.size,c.c.heap.objs.size)]⟩) (ajs:=(c.c.heap.objs.size,c.c.heap.objs.size)) (N:=L M) (V:= λH=>ajm (.c (L M)) H) (l:=ajr) (p:=ajr.a) (i:=0) (H:=M++[.y []])
   (g:=⟨{c.c with heap:=k,toks:=c.c.toks+L ([]:n (aH×ae))},c.a++[(c.c.heap.objs.size,c.c.heap.objs.size)]⟩)
   ajQ ajR ajU ajV z ajB G K B p (sV (rd ajK)) (λa m=>⟨jH (rd (iT (ajo a m) Y)),jH (iT (ajo a m) ajE)⟩)
   (j8 N.d) ajY (λU l s v h aj6 aj7 aj8=>?_) aa ⟨i,F.e ajJ,aj3,cA.D _ _,⟨_,ajs⟩,aj4,aj5⟩ ?_
  ·exact ajX (L M) (c.c.heap.objs.size,c.c.heap.objs.size) _ U l (h.l _ _ p) s v ((ajJ.eG.y h).ab λb y V=>by
    rcases y with rfl|rfl
    ·exact hw.mpr (j8 Y) V
    ·exact hw.mpr ajE V) aj6 aj7 (j8 N.d) (j8 Y) (λa m=>jH (rd (iT (ajo a m) Y))) aj8
  ·rw[<-ajl];exact aj0
 exact codeAny_compStart_list ajN (hx (PB (v:=⟨{c.c with heap:=k,toks:=c.c.toks+L ([]:n (aH×ae))},c.a++[(c.c.heap.objs.size,c.c.heap.objs.size)]⟩) (dN:= λv s=>v=.ref J/\s={c.c with heap:=k,toks:=c.c.toks+L ([]:n (aH×ae))}) i ⟨aa,aa⟩) (λv s h=>by refine bd h ?_;clear h;rintro rfl rfl;exact ajN) λD D e=>e.elim)
theorem PP (G:d9 t){f:ay->Q av}{k d h:ay}{l:n ay}{i:iX}{I:b0}{x:av}{j:dn}{p:nd}{s:n av}{u:n aH}{v:cd}
 (J:cm t aA gW k x)(M:jU t aA gW d j)(N:qr t aA R h p)(P:∀w x,ve h w x=dk x)(S:∀e r,f e=O r->hq t aA gW e r)(T:cl f l=O s)
 (U:n3 R gW d i u)(V:cl (hE R.b) (fN i.names)=O v)(W:o1 j=L u):cm t aA R (.ListComp k [⟨d,h,l,0⟩] i I) (.H x j v p s):=by
 refine gV λy A w b H g b K B F X q=>?_;rw[eval_ListComp];refine Fd G (ajn:=ab) J M N P S T U V W y K B F X q λY b C Z D CS b OL ajl a ajm ajn ajo b ajp=>bu a λm a=>⟨m,a,λajq E=>(i0 a λo b b ajr ajs b=>bd (OL.D (ap:={D.c with heap:=ajq}) ajm ajn (λb c=>by rw[ajr]at c;replace c:=aY c;subst c;intro ajt;refine eO ajt λb y z=>?_;rw[ajs]at z;injection z) (SameBut.ext E) (he E.1.symm)) λaju ajv=>?_)⟩;exact⟨.c Y,Z,D.a,.c CS,aju,(ajl.eG.y ajv).ab λb e ajw=>by subst e;exact hw.mpr ajo ajw,ajp⟩
section
abbrev lU (c:cQ)(k:ia c)(a:da)(e:ay)(r:av):Prop:=cm c k a e r/\hq c k a e r
def ko (h:cm t aA R aG bV)(b:∀{n:j}{L:aS}{H:Z}{Q:fp},¬tp t.P aA.a (ez t aA n) bV L H Q):lU t aA R aG bV:=
 ⟨h,qn λa a a a a a a a a a a q=>(b q).elim⟩
theorem qs (h:cm t aA R aG bV)
 (b:∀{n:j}{L:aS}{H:Z}{Q:fp},tp t.P aA.a (ez t aA n) bV L H Q->nV t.P aA.a (ez t aA n) bV L H Q)
 (c:∀d a,u9 aG d a=do let v<-a;pR aG.pos;me [v] (sG v)):lU t aA R aG bV:=⟨h,OZ h b c⟩
def PQ (h:fi f R aG=O bV):∀a x,ve aG a x=dk x:=by
 induction f using dx with
 |zero=>injection h
 |succ f=>induction aG using jJ<;>first|(intro a a;rfl)|injection h
theorem zd (c:hU t aA R (fi f R)){e:ay}{i:nd}(h:o8 (fi f R) R e=O i):
 qr t aA R e i/\∀a x,ve e a x=dk x:=by
 delta o8 at h;cases a:yY R e with
 |some l=>rw[a]at h;refine bd (fq h) λd g=>?_;obtain⟨l,b,rfl⟩:=dQ g;have l:=a;refine nJ (Ok a) ?_;rintro x p q rfl k;exact⟨PA c k b,λd d=>aa⟩
 |none=>rw[a]at h;obtain⟨r,b,rfl⟩:=dQ h;exact⟨Pw (c.a _ _ b),PQ b⟩
def PR (h:rN my=O bV):lU t aA R (.Constant my f cE) bV:=by refine ko (Ov h) λq=>?_;cases my<;>cases h<;>exact q
theorem PS (h:yP R a9=O bV):lU t aA R (.Name a9 cE) bV:=by
 refine bd (fq h) λc e=>?_;obtain⟨f,_,a⟩:=c6 e;have d:(hE R.b a9).map av.s=O bV->lU t aA R (.Name a9 cE) bV:= λb=>by obtain⟨i,_,rfl⟩:=dQ b;exact qs (EQ h) (λq=>q) λc c=>aa
 cases f
 case «local»=>exact d a
 case cell=>exact d a
 case globalImplicit=>obtain⟨v,_,b⟩:=c6 (show(R.h a9).bind yO=O bV from a);refine ko (EQ h) λq=>?_;cases v<;>cases b<;>exact q
 all_goals injection a
theorem PT (T:d9 t){f:ay->Q av}(c:hU t aA R f){a:ay}{g:n mW}{e:n ay}{o:b0}{r:av}(h:EH f a g e=O r):lU t aA R (.Compare a g e o) r:=by
 induction g using cv with
 |nil=>injection h
 |cons p g=>
  induction e using cv with
  |nil=>injection h
  |cons b e=>
   induction g using cv with
   |nil=>
    induction e using cv with
    |cons _ _=>injection h
    |nil=>obtain⟨x,j,l⟩:=c6 h;obtain⟨y,i,rfl⟩:=dQ l;have k:=(c.an _ _ i).1 p;exact⟨OR T (c.a _ _ j) (c.a _ _ i) k,OS T (c.a _ _ j) (c.a _ _ i) k⟩
   |cons q g=>
    induction e using cv with
    |nil=>injection h
    |cons d e=>
     induction g using cv with
     |cons _ _=>injection h
     |nil=>
      induction e using cv with
      |cons _ _=>injection h
      |nil=>obtain⟨x,j,l⟩:=c6 h;obtain⟨y,i,s⟩:=c6 l;obtain⟨z,m,rfl⟩:=dQ s;have k:=(c.an _ _ m).1 q;exact⟨OT T (c.a _ _ j) (c.a _ _ i) (c.a _ _ m) k,OU T (c.a _ _ j) (c.a _ _ i) (c.a _ _ m) k⟩
theorem PU (T:d9 t){f:ay->Q av}(a:hU t aA R f){o i:ay}{k:b0}{r:av}(h:yZ f o i=O r):lU t aA R (.Subscript o i k) r:=by
 delta yZ at h;cases e:qj i with
 |some p=>
  rw[e]at h;obtain⟨j,g,l⟩:=p;refine bu (Oe e) ?_;rintro p rfl;induction l using gA with
  |some _=>injection h
  |none=>
   induction j using gA with
   |none=>
    induction g using gA with
    |none=>injection h
    |some g=>obtain⟨x,b,c⟩:=c6 h;obtain⟨y,d,rfl⟩:=dQ c;exact ko (O0 T (a.a _ _ b) (a.a _ _ d)) λq=>q
   |some j=>
    induction g using gA with
    |none=>obtain⟨x,b,c⟩:=c6 h;obtain⟨y,d,rfl⟩:=dQ c;exact ko (O1 (a.a _ _ b) (a.a _ _ d)) λq=>q
    |some g=>obtain⟨x,b,c⟩:=c6 h;obtain⟨y,d,m⟩:=c6 c;obtain⟨z,n,rfl⟩:=dQ m;exact ko (O2 (a.a _ _ b) (a.a _ _ d) (a.a _ _ n)) λq=>q
 |none=>
  rw[e]at h;have h:ql f o i av.B av.bz=O r:=h;delta ql at h;cases g:nZ i with
  |some m=>rw[g]at h;obtain⟨x,b,rfl⟩:=dQ h;exact qs (OG (a.a _ _ b) g) (λq=>q) λj j=>aa
  |none=>rw[g]at h;obtain⟨x,b,c⟩:=c6 h;obtain⟨y,d,rfl⟩:=dQ c;exact qs (OF T (a.a _ _ b) (a.a _ _ d) e) (λq=>q) λj j=>aa
def PV (h:ty aG=O a9):∃p,aG=.Name a9 p:=
 vW (hF:= λaG=>∃p,aG=.Name a9 p) h o7 λy p h=>⟨p,aY h▸aa⟩
set_option tactic.hygienic true in
theorem PW (T:d9 t)(G:y8 t R){f:ay->Q av}(g:hU t aA R f){w:ay}{c:n ay}{z:n u7}{A:b0}{r:av}(h:EL f R w c z A=O r):lU t aA R (.Call w c z A) r:=by
 induction z using cv with
 |cons _ _=>injection h
 |nil=>
  induction w using jJ<;>first|(injection h;done)|skip
  case Attribute o a F=>refine bd (fq (show d5 (!qi o&&e1 (L c) 20&&(F.endLine==A.line)) ((tx a).bind λm=>(f o).bind λx=>(cl f c).map λD=>.D x m D)=O r from h)) λs d=>?_;rw[fu,fu]at s;obtain⟨m,j,B⟩:=c6 d;obtain⟨x,H,C⟩:=c6 B;obtain⟨D,k,rfl⟩:=dQ C;exact ko (Pa T g (g.a _ _ H) (yN s.1.1) j (ea s.1.2) s.2 k) λq=>q
  case Name x p=>
   obtain⟨v,u,d⟩:=c6 (show((ju R x).bind λv=>EK f R v c)=O r from h);cases v with
   |d a=>obtain⟨I,j,rfl⟩:=dQ (show(cl f c).map (av.w a)=O r from d);exact qs (O4 T G g u j) (λq=>q) λl l=>aa
   |A b=>obtain⟨I,j,rfl⟩:=dQ (show(cl f c).map (av.A b)=O r from d);exact ko (O5 T g u j) λq=>q
   |f=>
    have d:EJ f R c=O r:=d;induction c using cv with
    |nil=>injection d
    |cons e c=>
     induction c using cv with
     |nil=>injection d
     |cons J c=>
      induction c using cv with
      |cons _ _=>injection d
      |nil=>
       obtain⟨y,j,B⟩:=c6 (show((ty J).bind λy=>(ju R y).bind λv=>(f e).bind λx=>EI v x)=O r from d);refine bu (PV j) ?_;rintro K rfl;obtain⟨v,E,C⟩:=c6 B;obtain⟨M,k,i⟩:=c6 C;cases v<;>first|(injection i;done)|skip
       rename_i b
       cases b<;>first|(cases i;done)|skip
       ·replace i:=aY i;subst i;exact qs (O7 (g.a _ _ k) (g.an _ _ k) u E) (λq=>q) λl l=>aa
       ·replace i:=aY i;subst i;exact qs (O6 (g.a _ _ k) (g.an _ _ k) u E) (λq=>q) λl l=>aa
   |_=>injection d
theorem PX (d:hU t aA R dh){a:n (Q ay)}{b:n ay}{e:b0}{r:av}(h:EM dh R a b e=O r):lU t aA R (.Dict a b e) r:=by
 induction a using cv with
 |nil=>
  induction b using cv with
  |cons _ _=>injection h
  |nil=>replace h:=aY h;subst h;exact ko (O8 _) λq=>q
 |cons c a=>
  obtain⟨l,f,j⟩:=c6 (show((mz (c::a) b).bind λl=>d5 (e1 (L l) 30) ((cl dh l).map (match yW (c::a)with|true=>av.K|false=>av.h)))=O r from h);refine bd (fq j) λg k=>?_;obtain⟨m,i,rfl⟩:=dQ k;cases yW (c::a)with
  |true=>exact ko (Pl d f i (ea g) (by simp)) λq=>q
  |false=>exact ko (Pk d f i (ea g) (by simp)) λq=>q
theorem PY (T:d9 t){F:da->ay->Q av}{B:j}(C:F=fi B)(f:∀(b:da),b.h=R.h->∀(e:ay)(r:av),F b e=O r->lU t aA b e r){k:ay}{l:n u8}{d:iX}{D:b0}{r:av}(h:y1 F R k l d=O r):
 lU t aA R (.ListComp k l d D) r:=by
 induction l using cv with
 |nil=>injection h
 |cons g E=>
  induction E using cv with
  |cons _ _=>injection h
  |nil=>
   obtain⟨p,G,H,a⟩:=g;obtain⟨m,I⟩:=fq (show d5 (an (a=0)) ((vX R p d).bind λb=>(F b k).bind λx=>(iJ (F b) b 3 p).bind λs=>
    (cl (hE R.b) (fN d.names)).bind λu=>(o8 (F R) R G).bind λi=>(cl (F b) H).map λv=>.H x s u i v)=O r from h)
   have m:=dT m;subst m;obtain⟨b,J,K⟩:=c6 I;obtain⟨x,L,M⟩:=c6 K;obtain⟨s,w,N⟩:=c6 M;obtain⟨u,P,S⟩:=c6 N;obtain⟨i,U,V⟩:=c6 S;obtain⟨v,W,rfl⟩:=dQ V;refine bu (Fc J) λX o=>?_;have y:b.h=R.h:=by rw[o.l]
   have z:∀e r,F b e=O r->cm t aA b e r:= λe r c=>(f b y e r c).1;subst C;have A:=zd ⟨λe r c=>(f R aa e r c).1,λe r c=>v1 c⟩ U;exact ko (PP T (z _ _ L) (v5 T z 3 _ _ w) A.1 A.2 (λe r c=>(f b y e r c).2) W o P (Fb w o.names)) λq=>q
set_option tactic.hygienic true in
theorem k5 (T:d9 t){G:aH->Q gs}(F:∀x a,G x=O (.d a)->t.P.d a=af)(n:j):∀(R:da),R.h=G->∀(e:ay)(r:av),fi n R e=O r->lU t aA R e r:=by
 induction n with
 |zero=>intro R C e r h;injection h
 |succ n w=>
  intro R s e r h;have d:hU t aA R (fi n R):=⟨λe r l=>(w R s e r l).1,λe r l=>v1 l⟩;have k:∀e r,fi n R e=O r->hq t aA R e r:= λe r l=>(w R s e r l).2;induction e using jJ<;>first|(injection h;done)|skip
  case Constant v H p=>exact PR h
  case Name x p=>exact PS h
  case Tuple g H p=>refine bd (fq (show d5 (e1 (L g) 100) ((cl (fi n R) g).map av.r)=O r from h)) λA f=>?_;obtain⟨D,c,rfl⟩:=dQ f;exact ko (Ow d c (ea A)) λq=>q
  case List g p=>refine bd (fq (show d5 (e1 (L g) 100) ((cl (fi n R) g).map av.y)=O r from h)) λA f=>?_;obtain⟨D,c,rfl⟩:=dQ f;exact ko (Ox d c (ea A)) λq=>q
  case BinOp a m b p=>obtain⟨x,c,f⟩:=c6 (show((fi n R a).bind λx=>(fi n R b).map λy=>av.q m x y)=O r from h);obtain⟨y,u,rfl⟩:=dQ f;exact ko (Oy (d.a _ _ c) (d.a _ _ u)) λq=>q
  case UnaryOp m a p=>
   cases m<;>first|(injection h;done)|skip
   case Not=>obtain⟨x,c,rfl⟩:=dQ (show(fi n R a).map av.z=O r from h);exact⟨OA (d.a _ _ c),OV (k _ _ c)⟩
   case USub=>obtain⟨x,c,rfl⟩:=dQ (show(fi n R a).map av.E=O r from h);exact ko (Oz (d.a _ _ c)) λq=>q
  case BoolOp m g p=>obtain⟨D,c,rfl⟩:=dQ (show(cl (fi n R) g).map (av.J m)=O r from h);exact⟨OC d c,OY k c⟩
  case Compare a P S p=>exact PT T d h
  case IfExp I a b p=>obtain⟨x,c,f⟩:=c6 (show((fi n R I).bind λx=>(fi n R a).bind λy=>(fi n R b).map λz=>av.C x y z)=O r from h);obtain⟨y,u,B⟩:=c6 f;obtain⟨z,E,rfl⟩:=dQ B;exact⟨OD (k _ _ c) (d.a _ _ u) (d.a _ _ E),OW (k _ _ c) (k _ _ u) (k _ _ E)⟩
  case Attribute o a p=>refine bd (fq (show d5 (!qi o) (d5 (g8 (e2 a)) ((fi n R o).map λr=>av.x r (e2 a)))=O r from h)) λJ f=>bd (fq f) λB K=>?_;obtain⟨x,c,rfl⟩:=dQ K;exact qs (OE T (d.a _ _ c) (yN J) (qk B)) (λq=>q) λC C=>aa
  case Subscript o i p=>exact PU T d h
  case Call U V M p=>exact PW T (λx a e=>F x a (s▸e)) d h
  case Dict M W p=>exact PX d h
  case ListComp X Y Z p=>exact PY T aa (λN e=>w N (e.trans s)) h
end
def Fe:typeLookup (.type "list") (dunderI "add")=dk (O (.builtin "list.__iadd__")):=aix.lookup
def PZ:seqSlot? (.type "list") (dunderI "add")=dk (O (.builtin "list.__iadd__")):=PySem.seqSlot_of Fe (by decide+kernel)
section
variable{tK:dC ae}{jQ:mV}{G:bZ}{tL:hg Flow}{tM:H}{lW:e0->Q H}
theorem P0 (a:ap.heap.get? ak=O {cls:=.type "list",data:=.seq dp f})(b:ap.heap.get? gJ=O {cls:=.type "list",data:=.seq tK z})
 (d:¬(!dp.isEmpty&&uV (dp.size+tK.size))=af)(e:dp.size<=pP)(g:dp.size+tK.size<=pP+1)(q:dN (.ref ak) {ap with heap:=ap.heap.update ak (j9 λx=>x++tK)}):
 bL t.a a8 (inplaceOp .Add (.ref ak) (.ref gJ)) dN cb ap:=by
 refine eE ?_;have h:fillsInplaceSlot (.type "list") "add" (Operator.Add==.Add)=dk false:=by refine(?_:(typeLookup (.type "list") (dunderI "add")>>= λc=>dk (c.isSome&&!isSeqSlot c))=dk aN);rw[Fe,Cn];exact cp dk (by decide+kernel)
 have c:ap.TypeIs (.ref ak) "list":=⟨_,a,aa⟩;refine bh (wpAny_typeOf (T:="list") c (bh (wpAny_of_eq h ?_)));rw[ce k3];exact bh (wpAny_binaryOp1_none (nm:="add") (T:="list") ⟨_,a,aa⟩ ⟨_,b,aa⟩ noFill_list_add (bh (wpAny_of_eq PZ (bh (B' (sF aix c PySem.F.entry_list_iadd (PySem.F.args_list_iadd_2 _ _) (AutoSeq1.list___iadd___list_list_0 ak dp f gJ tK z d e g) ⟨a,b,q⟩))))))
set_option tactic.hygienic true in
theorem Ff (R:bi t c v)(d:a1 v bE p)(f:a1 v h' U)(h:rL jQ p U c w):
 bL t.a a8 (inplaceOp jQ bE h') (dP t v w) cb v.c:=by
 cases jQ<;>first|exact h.elim|skip
 case Add=>
  induction p using eh<;>first|exact h.elim|skip
  case e i=>obtain⟨j,rfl,q⟩:=vB h;exact d.K λA=>f.K λB=>iadd_int (e6 R (.e _ _) q)
  case c a=>
   obtain⟨l,s,g⟩:=tj h;obtain⟨b,rfl,C⟩:=ti g;obtain⟨m,D,E⟩:=tj C;refine ms E λu q=>d.X λM k=>f.X λN F=>gG (R.y s k) λo n y G z H=>gG (R.y D F) λr P I J K Q=>?_;have S:de=1000000:=aa;have L:¬(!o.isEmpty&&uV (o.size+r.size))=true:=by rw[(by simp[uV,pP];lia:Builtin.List.listTooLong (o.size+r.size)=false)];simp
   exact P0 y I L (by rw[z];exact jt H) (by rw[z,K];exact j8 (jt u)) (vT (f:= λp=>p++r) R s k y (by simpa using G.i J) (by rw[a6];exact u) (.c k) q)
 case Sub=>obtain⟨i,rfl,g⟩:=vB h;obtain⟨j,rfl,q⟩:=vB g;exact d.K λA=>f.K λB=>isub_int (e6 R (.e _ _) q)
theorem P1 (F:dV t aD cO ax v){i:j}{n:aH}{d:x} (e:cO[i]?=O n) (f:im ax i=O d){Q:ae->b1->Prop}(q:∀a,a1 v a d->Q a v.c):bL t.a a8 (loadName aD n) Q cb v.c:=by
 rcases F.b i n e with⟨b,m,g,r⟩|⟨b,l,a,h,k,r⟩
 ·rw[f]at r;cases c:m n with
  |none=>rw[c]at r;exact r.elim
  |some u=>rw[c]at r;exact wpAny_loadName_local F.f b g c (q u r)
 ·rw[f]at r;induction a using gA with
  |none=>exact r.elim
  |some u=>exact wpAny_loadName_cell F.f b h k (q u r)
def ze (g:bl)(f:Flow)(a:nQ):Prop:=match a with|.next=>f=.next|.c x=>∃v,f=.ret v/\a1 g v x
inductive mB (t:cQ)(aD:cU)(cO:n aH)(v:bl)(Q:bZ)(f:Flow)(a:b1):Prop
 |mk (c:nQ)(d:aS)(e:Z)(b:n (ac×ac))(m:ze ⟨a,b⟩ f c)(F:dV t aD cO d ⟨a,b⟩)(R:bi t e ⟨a,b⟩)(S:cA (fU aD) v ⟨a,b⟩)(q:Q c d e)
def kM {f:Flow}{a:nQ}(m:ze bX f a)(F:dV t aD cO ax bX)(R:bi t c bX)(S:cA (fU aD) v bX)(q:G a ax c):mB t aD cO v G f bX.c:=⟨a,ax,c,bX.a,m,F,R,S,q⟩
def v9 (S:cA (fU aD) v bX)(z:bL t.a a8 tL (mB t aD cO bX G) cb ap):
 bL t.a a8 tL (mB t aD cO v G) cb ap:=
 hx z (λc c y=>by obtain⟨e,f,g,h,m,a,b,t,d⟩:=y;exact⟨e,f,g,h,m,a,b,S.y t,d⟩) λc c e=>e
theorem v' {W:Flow->b1->Prop}(h:bL t.a a8 tL (mB t aD cO v G) cb v.c)
 (f:∀k g i j (c:bl),ze c k g->dV t aD cO i c->bi t j c->cA (fU aD) v c->G g i j->W k c.c):bL t.a a8 tL W dN v.c:=
 hx h (λe l z=>by obtain⟨g,i,j,n,m,a,b,t,d⟩:=z;exact f e g i j ⟨l,n⟩ m a b t d) λa a e=>e.elim
def rZ (a:bm):vU aD (fU aD) a:=⟨.inl aa,λb n b h=>.inr ⟨n,h⟩⟩
def lV (a:cQ)(k:ia a)(b:da)(d:e0)(r:H):Prop:=
 ∀(m n:j)(a8:eb)(aD:cU)(ax:aS)(c:Z)(v:bl)(Q:bZ),f8 a b aD->gU k.y a8->dV a aD b.b ax v->bi a c v->
  p8 (ez a k m) n r ax c Q->bL a.a a8 (exec d aD) (mB a aD b.b v Q) cb v.c
theorem mC {a:e0} (h:∀(m n:j)(a8:eb)(aD:cU)(ax:aS)(c:Z)(v:bl)(Q:bZ),f8 t R aD->gU aA.y a8->dV t aD R.b ax v->bi t c v->
 D2 (ez t aA m) (p8 (ez t aA m) n) tM ax c Q->bL t.a a8 (exec a aD) (mB t aD R.b v Q) cb v.c):lV t aA R a tM:=by
 intro m n a8 aD ax c v Q K B F b q;induction n using dx with
 |zero=>exact q.elim
 |succ n=>exact h m n a8 aD ax c v Q K B F b q
theorem tN (s:∀f r,lW f=O r->lV t aA R f r)(K:f8 t R aD)(B:gU aA.y a8)(m i:j):
 ∀{a:n e0}{b:n H}{ax:aS}{c:Z}{v:bl}{g:bZ},cl lW a=O b->dV t aD R.b ax v->bi t c v->a' (p8 (ez t aA m) i) b ax c g->
  bL t.a a8 (execs a aD) (mB t aD R.b v g) cb v.c:=by
 intro a;induction a with
 |nil=>intro b ax c v g e F h q;replace e:=aY e;subst e;exact KB (kM (a:=.next) aa F h (cA.D _ _) q)
 |cons f a u=>
  intro b ax c v g e F h q;refine d0 (jT e) ?_;rintro r b w y rfl;refine wpAny_execs_cons (v' (s f r w m i a8 aD ax c v _ K B F h q) λz A E G I d k l o p=>?_);induction A using nQ.casesOn with
  |next=>have d:z=.next:=d;subst d;exact v9 o (u y k l p)
  |c x=>refine aL d ?_;clear d;rintro C rfl D;exact kM (a:=.c x) ⟨C,aa,D⟩ k l o p
structure P2 (t:cQ)(aA:ia t)(R:da)(z p q:ay)(A:n ay)(s:iX)(r:av)(g:da)(f:ay->Q av)(x:av)(o:dn)(u:nd)(v:n av)(w:n aH)(y:cd):Prop where
 l:r=.H x o y u v
 a:cm t aA g z x
 b:jU t aA g p o
 c:qr t aA R q u
 d:∀aD x,ve q aD x=dk x
 h:∀e r,f e=O r->hq t aA g e r
 i:cl f A=O v
 j:n3 R g p s w
 k:cl (hE R.b) (fN s.names)=O y
 m:o1 o=L w
theorem P3 (T:d9 t){G:aH->Q gs}(E:∀x a,G x=O (.d a)->t.P.d a=af){c:j}(z:R.h=G){p:ay}{q:n u8}{g:iX}{F:b0}{r:av}(h:fi c R (.ListComp p q g F)=O r):
 ∃k d s b f x l e m u o,q=[⟨k,d,s,0⟩]/\P2 t aA R p k d s g r b f x l e m u o:=by
 induction c using dx with
 |zero=>injection h
 |succ c=>
  have f:=k5 (aA:=aA) T E c;have h:y1 (fi c) R p q g=O r:=h;induction q using cv with
  |nil=>injection h
  |cons v H=>
   induction H using cv with
   |cons _ _=>injection h
   |nil=>
    obtain⟨k,I,s,a⟩:=v;obtain⟨w,J⟩:=fq (show d5 (an (a=0)) ((vX R k g).bind λb=>(fi c b p).bind λx=>(iJ (fi c b) b 3 k).bind λl=>
     (cl (hE R.b) (fN g.names)).bind λo=>(o8 (fi c R) R I).bind λi=>(cl (fi c b) s).map λm=>.H x l o i m)=O r from h)
    have w:=dT w;subst w;obtain⟨b,K,L⟩:=c6 J;obtain⟨x,M,N⟩:=c6 L;obtain⟨l,A,P⟩:=c6 N;obtain⟨o,S,U⟩:=c6 P;obtain⟨i,V,W⟩:=c6 U;obtain⟨m,X,rfl⟩:=dQ W;refine bu (Fc K) λu y=>?_;have B:b.h=G:=by rw[y.l];exact z
    have C:∀e r,fi c b e=O r->cm t aA b e r:= λe r d=>(f b B e r d).1;have D:=zd ⟨λe r d=>(f R z e r d).1,λe r d=>v1 d⟩ V;exact⟨_,_,_,b,fi c b,x,l,i,m,u,o,aa,aa,C _ _ M,v5 T C 3 _ _ A,D.1,D.2,(λe r d=>(f b B e r d).2),X,y,S,Fb A y.names⟩
def Fg (v t:ay)(a:cU):Bool:=EB v aN λb b c d=>mx t aN λx p=>
 a.blockKind==.function&&a.kindOf x==O .local&&p.line==d.line&&!(c.names.any λ(n,aA)=>n==x&&(aA==.local||aA==.cell))
theorem P4 (h:fi f R aG=O bV):swapsWith aG (O cF) z aD=dk (Fg aG cF aD):=by
 induction f using dx with
 |zero=>injection h
 |succ f=>induction aG using jJ<;>first|rfl|(injection h;done)|(clear h;induction cF using jJ<;>rfl)
theorem P5 (h:fi f R aG=O bV):∃b,swapsWith aG (O cF) z aD=dk b/\(b=af->∃c d g a x p,aG=.ListComp c d g a/\cF=.Name x p/\aD.kindOf x=O .local):=
 ⟨Fg aG cF aD,P4 h,λb=>Od (hF:= λaG=>∃c d g a x p,aG=.ListComp c d g a/\cF=.Name x p/\aD.kindOf x=O .local) b qh λe v s a b=>
  vW (hF:= λcF=>∃c d g i x p,Expr.ListComp e v s a=.ListComp c d g i/\cF=.Name x p/\aD.kindOf x=O .local) b qh λx p b=>by simp only[fu]at b;exact⟨e,v,s,a,x,p,aa,aa,by simpa using b.1.1.2⟩⟩
theorem P6 (T:d9 t){G:aH->Q gs}(ajn:∀x a,G x=O (.d a)->t.P.d a=af){M:j}(ajo:R.h=G){s:ay}{u:n u8}{w:iX}{D p:b0}{y:aH}{r:av}{E:dn}(h:fi M R (.ListComp s u w D)=O r)(ajp:jU t aA R (.Name y p) E){A:eb}{c:cU}{L:aS}{H:Z}{g:bl}{k:bZ}(m:j)
 (K:f8 t R c)(B:gU aA.y A)(F:dV t c R.b L g)(ajq:bi t H g)(q:(ez t aA m).a r L H λv H=>(ez t aA m).c E v L H λL H=>k .next L H){N:b0}(ajr:swapsWithSole [.Name y p] (.ListComp s u w D) N.line c=dk af):
 bL t.a A (exec (.Assign [.Name y p] (.ListComp s u w D) N) c) (mB t c R.b g k) cb g.c:=by
 obtain⟨f,f,f,f,f,x,P,f,f,f,f,rfl,ajs⟩:=P3 T ajn ajo h;obtain⟨rfl,ajt,aju,ajv,ajw,ajx,ajy,ajz,ajA,ajB⟩:=ajs;induction m using dx with
 |zero=>exact q.elim
 |succ m=>rw[exec_Assign_arm];refine bh (j' ?_);rw[ajr];refine bh (cX ?_);rw[cP aa];refine bh (bh (hx (Fd T (ajm:= λv H=>(ez t aA (m+1)).c E v L H λL H=>k .next L H) (ajn:=O λv=>rk (.Name y p) c v) (W:= λd S=>mB t c R.b g k .next S) ajt aju ajv ajw ajx ajy ajz ajA ajB m K B F ajq q λf f C f f ajC ajD ajE ajF ajG U ajH ajI V ajJ=>pb (ajp (m+1) (X:=fU c) K B (rZ _) ajD ajE (.c ajC) ajJ) λajK ajL i ajM ajN I ajO=>eO ajG λajP o ajQ=>d0 ajQ λajR ajS W Y r=>?_) (λd S z=>cX (cX z)) λd d e=>e));have CS:i.c.heap.get? C=O o:=I.u _ _ W U λJ=>V C J aa;refine⟨ajP,⟨o,ajR,ajS,CS,Y,r⟩,λOL ajl=>(bd (ajN.D (ap:={i.c with heap:=OL}) (λP=>U (I.c C (gz W) P)) ajH (λf l=>by rw[CS]at l;replace l:=aY l;subst l;intro ajT;refine eO ajT λf M z=>?_;rw[Y]at z;injection z) (SameBut.ext ajl) (he ajl.1.symm)) λajU ajm=>?_)⟩;have ajV:=ajM.l ajm λa J=>V a J;have ajW:cA (λb=>fU c b\/b=C) g ⟨{i.c with heap:=OL},i.a⟩:=(ajF.eG.y (I.ab λb q d=>.inl q)).y (ajm.ab λb q d=>.inr q);exact⟨.next,ajK,ajL,i.a,aa,ajV,ajU,ajW.ab λb e ajX=>e.elim id λe=>by subst e;exact b6 ajX (hw.mpr ajI),ajO⟩
end
noncomputable def tO (b:cU)(c:j)(e:ay):Q Str:=swappedStores.match_8 (λd=>Q aH) e (λa f=>if b.kindOf a==O .local&&f.line==c then O a else ab) λd=>ab
def zf (t v:ay):Q (n ay×n ay):=qf t ab λb a a=>qf v ab λc a a=>O (b,c)
noncomputable def Fh (a:n ay):Nat:=(a.head?.map (·.pos.line)).getD 0
def mD (b:cU)(a:n ay):n Str:=a.filterMap (tO b (Fh a))
noncomputable def zg (b:cU)(a c:n ay):Bool:=!(L a==2||L a==3)||L c !=L a||b.blockKind !=.function
noncomputable def Fi (e:ay):Bool:=swappedStores.match_5 (λa=>bm) e (λa a=>af) λa=>aN
def r0 (b:cU)(o:Q (n ay×n ay)):hg (Q (n aH)):=o.rec (dk ab) λp=>p.rec λa c=>
 if zg b a c then dk ab else if c.any Fi then dk ab else
 if L (mD b a) !=L a||L (mD b a).eraseDups !=L (mD b a)then dk ab else
 if c.all (Ch 8)then dk ab else if c.all (Cg 8)then unsupported "assign.tuple-of-constant-expressions:order-of-the-stores" else dk (O (mD b a))
def P7 (h:rS aG cF=af):KC [aG] cF aD=r0 aD (zf aG cF):=by
 induction aG using jJ<;>first|rfl|(injection h;done)|(clear h;induction cF using jJ<;>rfl)
theorem P8 {P:ay->ay->Prop}{o:n ay×n ay}(h:zf aG cF=O o)(k:∀k p c d,P (.Tuple o.1 k p) (.Tuple o.2 c d)):P aG cF:=
 yS (hF:= λaG=>P aG cF) h o7 λe a p h=>yS (hF:= λcF=>P (.Tuple e a p) cF) h o7 λf b q h=>by replace h:=aY h;subst h;exact k a p b q
theorem P9 (f:lk.all (Cg 8)=aN)(g:lk.all (Ch 8)=aN)(b:r0 aD (O (dq,lk))=dk ab->aV)
 (h:r0 aD (O (dq,lk))=dk (O (mD aD dq))->(L dq=2\/L dq=3)->L (mD aD dq)=L dq->L (mD aD dq).eraseDups=L (mD aD dq)->aV):aV:=by
 by_cases a:zg aD dq lk=af
 ·exact b (cP a)
 by_cases c:lk.any Fi=af
 ·exact b ((ce a).trans (cP c))
 by_cases d:(L (mD aD dq) !=L dq||L (mD aD dq).eraseDups !=L (mD aD dq))=af
 ·exact b ((ce a).trans ((ce c).trans (cP d)))
 have e:=d;simp only[ya,bne_iff_ne,ne_eq,not_or,aif]at e;refine h ((ce a).trans ((ce c).trans ((ce d).trans ((ce (by rw[g];exact qh)).trans (ce (by rw[f];exact qh)))))) ?_ e.1 e.2;simp only[zg,ya,sR,Bool.or_eq_false_iff,not_or]at a;exact Decidable.or_iff_not_imp_left.mpr (by simpa using a.1.1)
def P' (h:tA aG=aN):tO aD f aG=none:=by
 induction aG using jJ<;>first|rfl|injection h
theorem Qa (h:tO aD f aG=O a9):∃a,aG=.Name a9 a/\aD.kindOf a9=O .local:=by
 induction q:tA aG using fD with
 |false=>rw[P' q]at h;injection h
 |true=>
  refine vW (hF:= λaG=>tO aD f aG=O a9->∃a,aG=.Name a9 a/\aD.kindOf a9=O .local) q qh (λy p b h=>?_) h;have h:(if aD.kindOf y==O .local&&p.line==f then O y else ab)=O a9:=h;by_cases c:(aD.kindOf y==O .local&&p.line==f)=af
  ·rw[cP c]at h;replace h:=aY h;subst h;simp only[fu]at c;exact⟨p,aa,by simpa using c.1⟩
  ·rw[ce c]at h;injection h
theorem zh (e:L ((bW::ct).filterMap f7)=L (bW::ct)):vA (f7 bW) λb=>(bW::ct).filterMap f7=b::ct.filterMap f7/\L (ct.filterMap f7)=L ct:=by
 cases q:f7 bW with
 |none=>rw[List.filterMap_cons_none q]at e;exact b6 (List.length_filterMap_le f7 ct) (by rw[e];exact Nat.not_succ_le_self _)
 |some b=>rw[aiy q]at e;exact⟨b,aa,aiy q,Cr e⟩
theorem Qb {P:n ay->Prop}{f:ay->Q aH}(j:∀e x,f e=O x->∃c,e=.Name x c/\aD.kindOf x=O .local)(l:L dq=2\/L dq=3)(h:L (dq.filterMap f)=L dq)(m:L (dq.filterMap f).eraseDups=L (dq.filterMap f))(q:(L dq==3&&dq.all tA)=aN)
 (k:∀x y c i,([.Name x c,.Name y i]:n ay).filterMap f=[x,y]->aD.kindOf x=O .local->aD.kindOf y=O .local->x≠y->P [.Name x c,.Name y i]):P dq:=by
 induction dq using cv with
 |nil=>exact b6 l ⋯
 |cons a dq=>
  obtain⟨x,r,s,h⟩:=zh h;refine aL (j _ _ r) λc o t=>?_;induction dq using cv with
  |nil=>exact b6 l (by simp)
  |cons b dq=>
   obtain⟨y,u,v,h⟩:=zh h;refine aL (j _ _ u) λi p w=>?_;induction dq using cv with
   |nil=>subst o p;have g:([.Name x c,.Name y i]:n ay).filterMap f=[x,y]:=s.trans (cp (x::·) v);refine k x y c i g t w λe=>?_;rw[g,e]at m;simp[List.eraseDups_cons]at m
   |cons d dq=>
    obtain⟨z,g,a,h⟩:=zh h;refine aL (j _ _ g) λa A a=>?_;induction dq using cv with
    |nil=>subst o p A;injection q
    |cons _ _=>exact b6 l (by simp)
theorem Qc (h:rS aG cF=af)(f:KC [aG] cF aD=dk ab->aV)
 (b:∀x y c d i p,aG=.Tuple [.Name x c,.Name y d] i p->KC [aG] cF aD=dk (O [x,y])->aD.kindOf x=O .local->aD.kindOf y=O .local->x≠y->aV):aV:=by
 rw[P7 h]at f b;cases q:zf aG cF with
 |none=>rw[q]at f;exact f aa
 |some o=>
  rw[q]at f b;refine P8 (P:= λaG cF=>rS aG cF=af->(∀x y c d i p,aG=.Tuple [.Name x c,.Name y d] i p->r0 aD (O o)=dk (O [x,y])->aD.kindOf x=O .local->aD.kindOf y=O .local->x≠y->aV)->aV) q (λa p k k h b=>?_) h b;have h:(!o.2.all (Cg 8)&&!o.2.all (Ch 8)&&!(L o.1==3&&o.1.all tA))=true:=h;simp only[fu,sR]at h;refine P9 (dq:=o.1) (lk:=o.2) (aD:=aD) h.1.1 h.1.2 f λj l m n=>?_;exact Qb (P:= λe=>r0 aD (O o)=dk (O (e.filterMap (tO aD (Fh o.1))))->(∀x y c d i g,Expr.Tuple e a p=.Tuple [.Name x c,.Name y d] i g->r0 aD (O o)=dk (O [x,y])->aD.kindOf x=O .local->aD.kindOf y=O .local->x≠y->aV)->aV)
   (λe x h=>Qa h) l m n h.2 (λx y c d g e r s j b=>b x y c d a p aa (g▸j) e r s) j b
section
def Qd (h:iJ dh R f aG=O fb):(assignEach [aG] aD).map (·.2)=[rk aG aD]:=by
 induction f using dx with
 |zero=>injection h
 |succ f=>induction aG using jJ<;>first|rfl|injection h
theorem Qe (c:2=L k){P:E->Prop}(d:∀a b,P [a,b]):P k:=by
 induction k using cv with
 |nil=>injection c
 |cons e k=>induction k using cv with
  |nil=>injection c with c;injection c
  |cons e k=>induction k using cv with
   |nil=>exact d _ _
   |cons _ _=>simp at c
def bp.ab (h:bp g bv [p,U]){P:n ae->Prop}(k:∀c b,a1 g c p->a1 g b U->P [c,b]):P bv:=by cases h with|a d e=>cases e with|a f i=>cases i with|l=>exact k _ _ d f
variable{G:bZ}{jQ:mV}{lW:e0->Q H}{ic Fl:n e0}{dO Fm:n H}
theorem Qf (B:gU f a8)(F:dV t aD R.b ax v)(r:bi t c v)(s:aD.kindOf a9=O .local)(u:aD.kindOf ib=O .local)
 (w:R.b[z]?=O a9) (y:R.b[aK]?=O ib) (A:z≠aK)(C:a1 v bE (.r [p,U]))(q:G .next (kh (kh ax z p) aK U) c):
 bL t.a a8 (do rule "assign.swapped-stores";let a<-unpackItems bE 2 ab;Cm [bindName aD ib,bindName aD a9] a.reverse;dk Flow.next) (mB t aD R.b v G) cb v.c:=by
 refine ke C.aw λW D W E H g W=>?_;rw[E];refine bh (B' (bh ?_));rw[show(2:j)=D.size from(kJ g.e).symm];refine nX (ait B.C ⟨_,H,aa,_,aa⟩ λb I J=>bd (r.u (ap:={v.c with heap:=b}) (λib o e=>I ib o (jH (gz e)) e) J) λo a=>?_);have a:=a d3;refine bp.ab (P:= λl=>bL _ a8 (do Cm [bindName aD ib,bindName aD a9] l.reverse;dk Flow.next) _ _ _) (g.u a.togh) λW W K L=>bh ?_;have i:∀{k:aH},aD.kindOf k=O .local->aD.kindOf k=O .cell->R.cells=true:= λh b=>by injection h.symm.trans b with h;injection h
 refine bh (eE (wpAny_bindName (pb (v:=⟨{v.c with heap:=b},v.a⟩) (tu (hm:=fU aD) (Q:= λd e=>kh ax aK U=d/\c=e) (rZ _) (F.e a) o y L ⟨aa,aa⟩ (i u)) λM N W P Q l m=>bh (eE (wpAny_bindName (pb (tu (hm:=fU aD) (Q:= λd e=>kh M z p=d/\N=e) (rZ _) P Q w (K.u l.togh) ⟨aa,aa⟩ (i s)) λW W W S T V n=>cX (cX (kM (a:=.next) aa S T ((a.eG.y l).y V) ?_))))))));rw[<-n.1,<-n.2,<-m.1,<-m.2,<-N9 A];exact q
theorem Fj (K:f8 t R aD)(a:aD.kindOf a9=O .local)(h:iJ (fi f R) R 2 (.Name a9 cE)=O fb){P:dn->Prop} (k:∀i,R.b[i]?=O a9->P (.s i)):P fb:=by obtain⟨e,b,c⟩:=c6 (show qm R a9=O fb from h);have a:=aY ((tE K b).symm.trans a);subst a;obtain⟨i,d,rfl⟩:=dQ (show(hE R.b a9).map dn.s=O fb from c);exact k i (o' d)
theorem Qg (K:f8 t R aD)(c:aD.kindOf a9=O .local)(d:aD.kindOf ib=O .local)(e:iJ (fi f R) R 3 (.Tuple [.Name a9 cE,.Name ib km] z tH)=O fb)
 {P:dn->Prop} (k:∀i a,R.b[i]?=O a9->R.b[a]?=O ib->P (.r [.s i,.s a])):P fb:=by
 refine bd (fq (show d5 (e1 (L [Expr.Name a9 cE,Expr.Name ib km]) 100) ((cl (iJ (fi f R) R 2) [.Name a9 cE,.Name ib km]).map dn.r)=O fb from e)) λv g=>?_;obtain⟨v,h,rfl⟩:=dQ g;refine d0 (jT h) λv v l m n=>d0 (jT m) λo v p q r=>?_;rw[n,r,<-aY q];exact Fj (P:= λb=>P (.r [b,o])) K c l λi s=>Fj (P:= λb=>P (.r [.s i,b])) K d p λa u=>k i a s u
theorem Qh (T:d9 t){G:aH->Q gs}(o:∀x a,G x=O (.d a)->t.P.d a=af){n:j}(s:R.h=G){c v:ay}{w:b0}{x:dn}{y:av}(OL:rS c v=af)(C:iJ (fi n R) R 3 c=O x)(D:fi n R v=O y):lV t aA R (.Assign [c] v w) (.d x y):=by
 refine mC λm g A h L H g M K B F N q=>?_;have P:jU t aA R c x:=v5 T (λe r b=>(k5 T o n R s e r b).1) 3 _ _ C;have q:(ez t aA m).a y L H λv H=>(ez t aA m).c x v L H λL H=>M .next L H:=q;refine aL (P5 (cF:=c) (z:=w.line) (aD:=h) D) λb S U=>?_;induction b using fD with
 |true=>obtain⟨d,d,d,d,d,p,rfl,rfl,_⟩:=U aa;exact P6 T o s D P m K B F N q S
 |false=>
  clear U;rw[exec_Assign_arm];refine bh (j' ?_);rw[show swapsWithSole [c] v w.line h=dk aN from S];refine bh (cX ?_);rw[ce qh];refine bh (bw ((k5 T o n R s v y D).1 m K B F N q) λu z ajl g V W r f=>v9 r.eG (Qc (aD:=h) OL (λE=>?_) λa b g g g p ajm E Y Z ajn=>?_))
  ·rw[E];refine bh (cX ?_);rw[Qd C];exact bh (pb (P m (X:=fU h) K B (rZ _) (F.e r) W V f) λg g g i k l d=>cX (kM (a:=.next) aa i k l d))
  ·rw[E];refine bh (cX ?_);subst ajm;refine Qg (P:= λx=>(ez t aA m).c x z L ajl (λL H=>M .next L H)->_) K Y Z C (λi g I CS f=>?_) f;induction m using dx with
   |zero=>exact f.elim
   |succ m=>
    obtain⟨J,rfl,d⟩:=M3 f;refine gj d λajo d=>?_;obtain⟨k,l,rfl⟩:∃k l,J=[k,l]:=Qe (P:= λJ=>∃k l,J=[k,l]) (oI ajo) λa b=>⟨a,b,aa⟩;induction m using dx with
    |zero=>exact d.elim
    |succ m=>exact Qf B (F.e r) W Y Z I CS (λe=>ajn (by rw[e]at I;exact aY (I.symm.trans CS))) V d
abbrev Fk (c:cQ)(A:eb)(a:cU)(d:n aH)(g:bl)(Q:bZ):Result->b1->Prop:=
 λr b=>match r with|.ok f=>mB c a d g Q f b|.error e=>cameBackBy c.a A a cb e b
theorem Qi (l:qm R a9=O (.s f))(n:cm t aA R aG bV):lV t aA R (.AugAssign (.Name a9 cE) jQ aG km) (.m f jQ bV):=by
 refine mC λm T A i L H g Q K B F o q=>?_;have a:R.b[f]?=O a9/\(i.kindOf a9=O .cell->R.cells=af):=by
  obtain⟨p,r,b⟩:=c6 l;cases p
  case «local»=>
   obtain⟨s,c,e⟩:=dQ (show(hE R.b a9).map dn.s=O (.s f)from b);injection e with e;subst e
   exact⟨o' c,λh=>by rw[tE K r]at h;cases h⟩
  case cell=>
   refine bd (fq (show d5 R.cells ((hE R.b a9).map dn.s)=O (.s f)from b)) λv w=>?_;obtain⟨s,c,e⟩:=dQ w;injection e with e;subst e
   exact⟨o' c,λU=>v⟩
  all_goals injection b
 exact d4 q λz x q=>wpAny_AugAssign_Name (P1 F a.1 x λu y=>bw (n m K B F o q) λV W X Y C D d E=>bw (Ff D (y.u d.togh) C E) λZ CS OL ajl G I k J=>pb (tu (hm:=fU i) (rZ R.cells) (F.e (d.y k)) I a.1 G J a.2) λajm ajn ajo M N P S=>kM (a:=.next) aa M N ((d.y k).eG.y P) S)
theorem Qj (p:cm t aA R aG bV)(r:nZ cF=O f)(v:cm t aA R mA ip):lV t aA R (.AugAssign (.Subscript aG cF cE) jQ mA km) (.p bV f jQ ip):=by refine i0 (yV r) ?_;rintro s a g rfl rfl x;refine mC λm g A g L H g Q K B F y q=>wpAny_AugAssign_SubscriptAny (bw (p m K B F y q) λu a z c i C k D=>Ci (bd (C.same (ap:={c.c with toks:=c.c.toks+1}) aa) λE b=>?_)) (by intro d d d;rfl);have b:=b d3;refine bd (Ec (a8:=A) (d:=c.c.toks) E (i.u b.togh) x D) λw g=>bw w λg g G g I J d e=>?_;obtain⟨rfl,e⟩:G=z/\_:=e;refine bw (v m K B (F.e ((k.y b).y d)) J e) λg g g g M N h P=>bw (Ff N (I.u h.togh) M P) λg g g g S T l U=>?_;have n:=((k.y b).y d).y (h.y l);exact vY (Ei T (i.u (b.y (d.y (h.y l))).togh) S U) λg g V o W=>kM (a:=.next) aa (F.e (n.y o)) V (n.y o).eG W
theorem Qk (b:∀c r,lW c=O r->lV t aA R c r)(h:hq t aA R aG bV)(i:cl lW ic=O dO)(j:cl lW Fl=O Fm):
 lV t aA R (.If aG ic Fl cE) (.h bV dO Fm):=by
 refine mC λm d A g L g g g K B F k q=>wpAny_If (nk (h m K B F k q) λr g g e a f=>?_);induction r using fD with
 |true=>exact v9 a.eG (tN b K B m d i (F.e a) e f)
 |false=>exact v9 a.eG (tN b K B m d j (F.e a) e f)
theorem Ql (J:∀k r,lW k=O r->lV t aA R k r)(M:hq t aA R aG bV)(N:cl lW ic=O dO):
 lV t aA R (.While aG ic [] cE) (.q bV dO):=by
 refine mC λm l A h L d g b K B F P q=>bu q λa q=>wpAny_While ?_;refine codeAny_whileLoop (R:=Fk t A h R.b g b) (λa i=>∃o p e,dV t h R.b o ⟨i,e⟩/\bi t p ⟨i,e⟩/\cA (fU h) g ⟨i,e⟩/\
  nU (λL d b=>(ez t aA m).T bV L d b) (λL d b=>a' (p8 (ez t aA m) l) dO L d b) a o p b) ?_ a ⟨L,d,g.a,F,P,cA.D _ _,q⟩
 intro a S T;refine ke T λajl ajm e s U V w=>?_;induction a using dx with
 |zero=>exact w.elim
 |succ a=>
  refine nk (v:=⟨S,e⟩) (M m K B s U w) λr ajn ajo x y z=>?_;have C:=s.e y;have j:=V.y y.eG;induction r using fD with
  |false=>rw[ce ⋯];exact KB (kM (a:=.next) aa C x j z)
  |true=>
   rw[cP aa];refine v' (tN J K B m l N C x z) λW X Y Z CS f D E G I=>?_;induction X using nQ.casesOn with
   |next=>have f:W=.next:=f;subst f;exact⟨a,hi a,Y,Z,CS.a,D,E,j.y G,I⟩
   |c v=>refine aL f ?_;clear f;rintro u rfl OL;exact kM (a:=.c v) ⟨u,aa,OL⟩ D E (j.y G) I
inductive Fn (t:cQ)(R:da)(f:cU)(r:f6)(d:ac)(g:bl)(P:E->aS->bI)(l:j)(a:b1):Prop
 |mk (e:E)(i:j)(h:aS)(k:Z)(c:n (ac×ac))(m:l=L e)(m:r.a.drop i=e)(I:hr ⟨a,c⟩ r d i)(F:dV t f R.b h ⟨a,c⟩)(m:bi t k ⟨a,c⟩)(S:cA (λb=>fU f b\/b=d) g ⟨a,c⟩)(b:¬T ⟨a,c⟩ d)(q:P e h k)
theorem Qm {V:nd}(ajB:∀W r,lW W=O r->lV t aA R W r)(ajC:jU t aA R aG fb)(ajD:qr t aA R cF V)(ajE:∀b fb,ve cF b fb=dk fb)
 (ajF:cl lW ic=O dO):lV t aA R (.For aG cF ic [] cE) (.k fb V dO):=by
 refine mC λm Y A b k x g y K B F ajG q=>?_;have ajH:∀a,fU b a->a<g.c.heap.objs.size:= λa h=>by refine lL (F.d a h) ?_;intro f f ajI f;exact bu ajI λo E=>gz E
 refine wpAny_For (ajD m K B F ajG q λr d ajJ ajK ajL Z ajM I ajN CS ajO=>?_) (ajE b);have OL:∀a,fU b a->a≠d:= λa h=>jH (iT (ajH a h) Z);refine codeAny_loop' (R:=Fk t A b R.b g y) aa (Fn t R b r d g λl ajP ajQ=>ds (λv k x y=>(ez t aA m).c fb v k x λk x=>a' (p8 (ez t aA m) Y) dO k x y) r l ajP ajQ y) ?_ (L r.a) (.mk r.a 0 k ajJ ajK.a aa aa I (F.e CS) ajN CS.eG ajM ajO);intro aka ajl J;induction J using Fn.casesOn with|mk l i akb ajR p G ajm ajn ajS ajT ajU ajo w=>
 have ajp:∀{ajq:bl},cA (λic=>fU b ic\/ic=d) g ajq->cA (fU b) g ajq:= λS=>S.ab λic e M=>e.elim id λe=>b6 M (hw.mpr (e▸Z));show bL _ _ ((forTurn aG (.ref d) ic [] b).onRaise (λfb=>do noteFrame fb b;theTreesLotGoes fb)) _ _ ajl;refine wpAny_noted ?_;have ajV:v4 r ajR:=by induction l using cv<;>exact(rX w).1
 refine bh (j' (bh (wpAny_onRaise (hx (E2 ajT B.C ajn ajV ajL ajo) (λo j z=>c9 z λajr C z=>?_) λf f e=>e.elim))));have N:=ajU.y (C.ab (DK:= λic=>fU b ic\/ic=d) λic q f=>.inr q);have ajs:=ajS.l C λa h e=>OL a h e;have ajt:d<ajl.heap.objs.size:=aL ajn.e λo E f=>gz E;have aju:¬T ⟨j,p⟩ d:= λaG=>ajo (C.c d ajt aG);induction o using gA with
 |none=>have P:l=[]:=ajm.symm.trans (aiv (Kw.mp z));rw[P]at w G;exact cX (.inr ⟨aa,codeAny_block (KB (kM (bX:=⟨j,p⟩) (a:=.next) aa ajs ajr (ajp N) (rX w).2))⟩)
 |some v=>
  refine dU z λa ajW ajX ajv=>?_;have P:l=a::r.a.drop (i+1):=(cs.mp ajW).elim λM e=>ajm.symm.trans ((aiw M).trans (cp (·::_) e));rw[P]at w G;refine bh (hx (E5 (v:=⟨j,p⟩) (i7:= λf s=>s=j) ajv aa) (λf akc e=>?_) λf f e=>e.elim);rw[e];have ajY:=(rX w).2;refine bh (pb (v:=⟨j,p⟩) (ajC m (X:=fU b) K B (rZ _) ajs ajr ajX ajY) λakd ake akf ajZ aj0 aj1 aj2=>bh (v' (tN ajB K B m Y ajF ajZ aj0 aj2) λaj3 aj4 aj5 aj6 ajw U ajx ajy aj7 ajz=>?_));have D:=aj1.y aj7;have ajA:cA (λic=>fU b ic\/ic=d) ⟨j,p⟩ ajw:=D.ab λic q f=>.inl q;have aj8:d<j.heap.objs.size:=iT ajt C.s;induction aj4 using nQ.casesOn with
  |next=>rw[show aj3=.next from U,G];exact cX (.inl ⟨aa,_,hi _,.mk _ (i+1) aj5 aj6 ajw.a aa aa (ajv.u (λo e=>D.u d o e aju λh=>OL d h aa) D.togh) ajx ajy (N.y ajA) (λaG=>aju (D.c d aj8 aG)) ajz⟩)
  |c v=>refine aL U ?_;clear U;rintro u rfl aj9;exact cX (kM (a:=.c v) ⟨u,aa,aj9⟩ ajx ajy (ajp (N.y ajA)) ajz)
set_option tactic.hygienic true in
theorem Qn (T:d9 t){G:aH->Q gs}(S:∀x a,G x=O (.d a)->t.P.d a=af)(U:R.h=G)(n:j):∀w r,rT R n w=O r->lV t aA R w r:=by
 induction n with
 |zero=>intro w r h;injection h
 |succ n V=>
  intro w r h;have u:∀e r,g9 R e=O r->cm t aA R e r:= λe r C=>(k5 T S 12 R U e r C).1;have Z:∀e r,g9 R e=O r->hq t aA R e r:= λe r C=>(k5 T S 12 R U e r C).2;have ajm:hU t aA R (g9 R):=⟨u,λe r C=>v1 C⟩;induction w using Stmt.casesOn<;>first|(cases h;done)|skip
  case Expr v p=>refine bd (fq (show d5 (!EC v) ((g9 R v).map H.f)=O r from h)) λajn f=>?_;obtain⟨y,c,rfl⟩:=dQ f;refine mC λm I A J L M g N K B F s q=>wpAny_Expr_any (bw (u _ _ c m K B F s q) λv x ajo ajp CS W D X=>kM (a:=.next) aa (F.e D) W D.eG X) (by unfold interactive;rw[F.f];rfl) ?_;induction v using jJ<;>first|rfl|injection ajn
  case Pass p=>replace h:=aY h;subst h;exact mC λm I A J L M g N K B F s q=>wpAny_Pass (kM (a:=.next) aa F s (cA.D _ _) q)
  case Return v p=>
   induction v using gA with
   |none=>replace h:=aY h;subst h;exact mC λm I A J L M g N K B F s q=>wpAny_Return_none (kM (a:=.c .C) ⟨.none,aa,.C⟩ F s (cA.D _ _) q)
   |some e=>obtain⟨y,c,rfl⟩:=dQ (show(g9 R e).map H.c=O r from h);exact mC λm I A J L M g N K B F s q=>wpAny_Return_some (bw (u _ _ c m K B F s q) λv x ajo ajp CS W D X=>kM (a:=.c x) ⟨v,aa,CS⟩ (F.e D) W D.eG X)
  case Assign Y v p=>
   induction Y using cv with
   |nil=>injection h
   |cons d Y=>
    induction Y using cv with
    |cons _ _=>injection h
    |nil=>refine bd (fq (show d5 (rS d v) ((iJ (g9 R) R 3 d).bind λx=>(g9 R v).map λy=>H.d x y)=O r from h)) λajq f=>?_;obtain⟨x,c,l⟩:=c6 f;obtain⟨y,k,rfl⟩:=dQ l;exact Qh T S U ajq c k
  case AugAssign d OL v p=>
   induction d using jJ<;>first|(injection h;done)|skip
   case Name x ajr=>
    refine bd (fq (show d5 (!tw x) ((qm R x).bind λd=>(g9 R v).bind λy=>EN d OL y)=O r from h)) λajt f=>?_;obtain⟨d,c,l⟩:=c6 f;obtain⟨y,k,P⟩:=c6 l;induction d using dn.casesOn<;>first|(cases P;done)|skip
    replace P:=aY P;subst P;exact Qi c (u _ _ k)
   case Subscript o i ajr=>obtain⟨n,c,f⟩:=c6 (show((nZ i).bind λn=>(g9 R o).bind λx=>(g9 R v).map λz=>H.p x n OL z)=O r from h);obtain⟨x,k,l⟩:=c6 f;obtain⟨z,E,rfl⟩:=dQ l;exact Qj (u _ _ k) c (u _ _ E)
  case If d a b p=>obtain⟨x,c,f⟩:=c6 (show((g9 R d).bind λx=>(cl (rT R n) a).bind λy=>(cl (rT R n) b).map λz=>H.h x y z)=O r from h);obtain⟨y,k,l⟩:=c6 f;obtain⟨z,E,rfl⟩:=dQ l;exact Qk V (Z _ _ c) k E
  case While d b o p=>
   induction o using cv with
   |cons _ _=>injection h
   |nil=>obtain⟨x,c,f⟩:=c6 (show((g9 R d).bind λx=>(cl (rT R n) b).map λy=>H.q x y)=O r from h);obtain⟨y,k,rfl⟩:=dQ f;exact Ql V (Z _ _ c) k
  case For d ajs b o p=>
   induction o using cv with
   |cons _ _=>injection h
   |nil=>obtain⟨x,c,f⟩:=c6 (show((iJ (g9 R) R 3 d).bind λx=>(o8 (g9 R) R ajs).bind λy=>(cl (rT R n) b).map λz=>H.k x y z)=O r from h);obtain⟨y,k,l⟩:=c6 f;obtain⟨z,E,rfl⟩:=dQ l;have ajl:=zd ajm k;exact Qm V (v5 T u 3 _ _ c) ajl.1 ajl.2 E
  case Raise a b p=>replace h:=aY h;subst h;exact mC λm I A J L M g N K B F s q=>q.elim
end
theorem Qo (c:aH->Q h5)(b:n (aH×ae)):∀(m:aH->Q ae)(a:aH),a∉b.map (·.1)->bindL c b m a=m a:=by
 induction b with
 |nil=>intro m a d;rfl
 |cons p r d=>
  intro m a h;rw[oz,fw,not_or]at h;rw[d _ a h.2];by_cases q:c p.1=O .local
  ·rw[cP q,ce h.1]
  ·rw[ce q]
theorem Qp (f:aH->Q h5)(d:n aH):∀(c:n ae)(m:aH->Q ae)(i:j)(e:aH)(v:ae),d.Nodup->d[i]?=O e->c[i]?=O v->f e=O .local->bindL f (d.zip c) m e=O v:=by
 induction d with
 |nil=>intro a a a a a a h;simp at h
 |cons p d q=>
  intro c m i e v k l h o;rw[pL]at k;induction c using cv with
  |nil=>simp at h
  |cons u c=>
   induction i using dx with
   |zero=>
    simp at l h;subst l h;refine(?_:bindL f ((p,u)::d.zip c) m p=O u);unfold bindL;rw[Qo f _ _ p (λg=>by rw[f2]at g;refine aL g ?_;clear g;rintro r g rfl;obtain⟨a,b⟩:=r;exact k.1 (KD g).1),cP o]
    simp
   |succ i=>exact(q c _ i e v k.2 (by simpa using l) (by simpa using h) o:bindL f ((p,u)::d.zip c) m e=O v)
theorem Qq (c:aH->Q h5)(b:n (aH×ae)):∀(m:aH->Q ae)(a:aH),a∉b.map (·.1)->bindC c b m a=m a:=by
 induction b with
 |nil=>intro m a d;rfl
 |cons p r d=>
  intro m a h;rw[oz,fw,not_or]at h;rw[d _ a h.2];by_cases q:c p.1=O .local
  ·rw[cP q]
  ·rw[ce q];show(if a=p.1 then O p.2 else m a)=m a;rw[ce h.1]
theorem Qr (f:aH->Q h5)(d:n aH):∀(c:n ae)(m:aH->Q ae)(i:j)(e:aH)(v:ae),d.Nodup->d[i]?=O e->c[i]?=O v->f e=O .cell->bindC f (d.zip c) m e=O v:=by
 induction d with
 |nil=>intro a a a a a a h;simp at h
 |cons p d q=>
  intro c m i e v k l h o;rw[pL]at k;induction c using cv with
  |nil=>simp at h
  |cons u c=>
   induction i using dx with
   |zero=>
    simp at l h;subst l h;refine(?_:bindC f ((p,u)::d.zip c) m p=O u);unfold bindC;rw[Qq f _ _ p (λg=>by rw[f2]at g;refine aL g ?_;clear g;rintro r g rfl;obtain⟨a,b⟩:=r;exact k.1 (KD g).1),ce (by rw[o];decide)]
    simp
   |succ i=>exact(q c _ i e v k.2 (by simpa using l) (by simpa using h) o:bindC f ((p,u)::d.zip c) m e=O v)
theorem Qs (c:n (aH×h5)):∀(i:j)(b:n (aH×ac))(a:aH),(c.lookup a=O .cell\/(b.lookup a).isSome=af)->((Cs i c b).lookup a).isSome=true:=by
 induction c with
 |nil=>intro d b a h;exact h.elim (λh=>by injection h) id
 |cons p r f=>
  intro i b a h;obtain⟨x,g⟩:=p;unfold Cs;by_cases d:(g==NameKind.cell)=af
  ·rw[cP d];refine f _ _ a ?_;by_cases e:(a==x)=af
   ·exact .inr (by rw[lG,e];rfl)
   ·refine gQ h (λh=>?_) λh=>.inr (by rw[lG,(KE.mpr e)];exact h)
    ·rw[lG,(KE.mpr e)]at h;exact .inl h
  ·rw[ce d];refine f _ _ a ?_;rcases h with h|h
   ·rw[lG]at h;by_cases e:(a==x)=af
    ·rw[e]at h;replace h:=aY h;subst h;exact b6 aa d
    ·rw[KE.mpr e]at h;exact .inl h
   ·exact .inr h
structure Fo (c:cQ)(a:ac)(h:da)(i:n aH)(k:n e0):Prop where
 e:∃o g,c.b.heap.get? a=O o/\o.data=.func g/\g.body=.stmts k/\g.closure=[]/\g.scope.names=h.f/\g.scope.kind=.function/\g.scope.isCoroutine=aN/\g.scope.isGenerator=aN/\
  c.b.heap.CodeRec g.code g.qualname/\tv c h.h g.globals g.builtins/\∀j:n ae,L j=L i->bindArgs g ⟨j,[]⟩=dk (i.zip j)
 b:∃r,h.b=i++r
 d:h.b.Nodup
 f:∀j,j∈h.b->h.f.lookup j=O .local\/h.f.lookup j=O .cell
theorem Qt {n i:j}:im (k.map O++iW n ab) i=k[i]?:=by
 rw[E9,cj];by_cases h:i<L k
 ·rw[cP h];clear n;induction k generalizing i with
  |nil=>simp at h
  |cons a k b=>induction i using dx with
   |zero=>rfl
   |succ i=>simpa [im]using b (i:=i) (by simpa using h)
 ·rw[ce h,E',KF (lC h)]
theorem Qu (T:d9 t){G:aH->Q gs}(ajH:∀x k,G x=O (.d k)->t.P.d k=af){k:ac}{u:n aH}{ajq:n e0}{ajr:n H}(ajI:R.h=G)(D:Fo t k R u ajq)(Y:y2 R ajq=O ajr)(ajJ:t.b.heap.NoLimit){y:E}{ajs:Z}{ajt:bg}(CS:L y=L u)
 (h:D3 t.P aA.a (L R.b) ajr y ajs ajt):jS t (aA.y+1) k y ajs ajt:=by
 intro A g J B M aju;obtain⟨ajK,ajL,OL,ajv⟩:=D;obtain⟨o,l,w,N,ajM,ajN,P,ajw,ajO,ajP,ajQ,ajR,ajS⟩:=ajK;refine bu ajL λakh V=>?_;have p:=M.a _ _ w;have ajx:u.Nodup:=by rw[V]at OL;exact(oH.mp OL).1
 have W:∀d,(rm l g.c.heap.objs.size k).kindOf d=R.f.lookup d:= λd=>by show l.scope.names.lookup d=_;rw[P]
 have ajy:∀d,R.f.lookup d=O .cell->((Cs (g.c.heap.objs.size+1) l.scope.names []).lookup d).isSome=true:= λd h=>Qs _ _ _ _ (.inl (P▸h));have ajz:∀j o,t.b.heap.get? j=O o->g.c.heap.get? j=O o:=M.a;refine codeAny_call_cells (binds:=u.zip J) (by have:=B.y;exact ex (.lt .a .e) (.le (.b (.b .a (.f 4 (.b .l .r))) (.y 10)) .e) this) p N (ajJ.keeps ajz) (nL ajQ λajT ajl ajU ajV ajW ajX ajY ajZ=>⟨ajT,ajl,ajU,ajV,ajW,ajz _ _ ajX,ajY,ajZ⟩) ajM (ajS J (aju.e.trans CS)) ajN (λx C=>?_) (λU X=>?_) ajO ajP ajw
 ·have ajm:x.1∈R.b:=by rw[V];exact hN _ (KD (a:=x.1) (b:=x.2) C).1
  rcases ajv _ ajm with s|s
  ·exact .inl (P▸s)
  ·exact .inr ⟨P▸s,ajy _ s⟩
 ·have aki:(rm l g.c.heap.objs.size k).locals=g.c.heap.objs.size:=aa;have akj:(rm l g.c.heap.objs.size k).cells=Cs (g.c.heap.objs.size+1) l.scope.names []:=aa;refine bd (M.u (ap:=U) X.toInCall.keep (hy (nJ X.toInCall.ns λo aj0 aj1 w aj2=>gz w:g.c.heap.objs.size<U.heap.objs.size)) (by refine eO X.toInCall.same λaj3 aj4 e=>?_;rw[e]) (by refine eO X.toInCall.same λaj3 aj4 e=>?_;rw[e])) λaj5 ajA=>?_;have ajB:∀j,fU (rm l g.c.heap.objs.size k) j->g.c.heap.objs.size<=j:=by
   rintro j (rfl|⟨d,Y⟩)
   ·exact br _
   ·exact hy (X.above d j (Ct Y))
  have aj6:dV t (rm l g.c.heap.objs.size k) R.b (y.map O++iW (L R.b-L y) ab) ⟨U,g.a⟩:=by
   have aj7:L u<=L R.b:=by rw[V,a6];exact cZ ..
   refine⟨ajw,by rw[a6,cj,Ky];exact m6 [_,_,_] [] (.b .a .e) .l (.l (.b .e .a) .l) cc [1,-1] (dc (aU (he CS) aj7)),λi d ajn=>?_,OL,λj F=>?_,λd j F=>sV (X.above d j (Ct F)),λd j akk akl aj8 aj9 e=>?_⟩
   ·rw[Qt];have ajm:=jK ajn;have arg:∀x,y[i]?=O x->∃v,J[i]?=O v/\a1 ⟨U,g.a⟩ v x/\u[i]?=O d:= λx C=>by refine aL (aju.b C) λv I r=>⟨v,I,r.u (ajA d3).togh,?_⟩;rw[V,ek (by rw[<-CS];exact(cs.mp C).1:i<u.length)]at ajn;exact ajn
    rcases ajv d ajm with s|s
    ·refine .inl ⟨(W d).trans s,_,X.toInCall.ns,?_⟩;cases C:y[i]?with
     |none=>trivial
     |some x=>refine dU (arg x C) λv I r ajo=>?_;rw[Qp _ u J _ i d v ajx ajo I ((W d).trans s)];exact r
    ·refine bu (Kz.mp (ajy d s)) λajC ajD=>.inr ⟨(W d).trans s,ajC,_,ajD,X.cell d ajC ajD,?_⟩;cases C:y[i]?with
     |none=>trivial
     |some x=>refine dU (arg x C) λv I r ajo=>?_;rw[Qr _ u J _ i d v ajx ajo I ((W d).trans s)];exact r
   ·have ajE:=ajB j F;refine⟨M.C ajE,aU M.d ajE,?_⟩;rcases F with rfl|⟨d,F⟩
    ·exact i0 X.toInCall.ns λo aj0 aj1 w N aj2=>⟨⟨o,w⟩,λajl p=>by rw[w]at p;replace p:=aY p;subst p;intro aka;refine eO aka λakb d z=>?_;rw[N]at z;cases z⟩
    ·exact aL (X.cell d j F) λo w N=>⟨⟨o,w⟩,λajl p=>by rw[w]at p;replace p:=aY p;subst p;intro akc;refine eO akc λakb d z=>?_;rw[N]at z;cases z⟩
   ·exact name_of_addr X.apart (Ct aj8) (by rw[e];exact Ct aj9)
  have K:f8 t R (rm l g.c.heap.objs.size k):=⟨P,ajR⟩;have akd:gU aA.y (A.deeper (rm l g.c.heap.objs.size k)):=⟨B.C,by have:=B.y;show A.depth+1+4*aA.y+10<=_;exact ex (.le (.b (.b (.b .a .r) (.f 4 .e)) (.y 10)) .l) (.le (.b (.b .a (.f 4 (.b .e .r))) (.y 10)) .l) this,by have:=B.a;show A.units+3+20*aA.y+200<=_;exact ex (.le (.b (.b (.b .a .L) (.f 20 .e)) (.y 200)) .l) (.le (.b (.b .a (.f 20 (.b .e .r))) (.y 200)) .l) this⟩;refine v' (v:=⟨U,g.a⟩) (tN (Qn T ajH ajI 8) K akd _ _ Y aj6 aj5 h) λf ake akm ajF ajp m akn ajG akf q=>?_;have S:cA d3 g ajp:=((ajA (fU (rm l g.c.heap.objs.size k))).y akf).ab λj F akg=>b6 akg (hw.mpr (ajB j F));induction ake using nQ.casesOn with
  |next=>have m:f=.next:=m;subst m;exact⟨.C,ajF,ajp.a,.C,ajG,S,q⟩
  |c x=>refine aL m ?_;clear m;rintro v rfl I;exact⟨x,ajF,ajp.a,I,ajG,S,q⟩
theorem Qv (X:jR.In t.b.heap){C i:ac}(w:vf jR C=af)(y:k1 jR (.ref C) "__init__"=O (O (.ref i)))(D:typeIn jR (.ref i)=O (.type "function")){p:E}{H:Z}{Q:bg}
 (h:aA.a i (.c (L H)::p) (H++[.a C []]) λv j=>oX v (Q (.c (L H)) j)):jS t (aA.y+1) C p H Q:=by
 intro A F f B R G;obtain⟨I,q⟩:=F;obtain⟨c,g,d,k,l⟩:=I;have m:jR.In c:= λa o e=>R.a a o (X a o e);refine make_core (makes_of m w) (looks_findIn m y) (λb=>bind_fn m b D) (.inl aa) ?_;have n:((c.push rn).push (nD C c.objs.size)).objs.size=c.objs.size+2:=by rw[oC,oC]
 obtain⟨J,s⟩:=R.al (ap:=⟨(c.push rn).push (nD C c.objs.size),g,d,k,l⟩) (p:=(c.objs.size+1,c.objs.size)) (o:=.a C []) ⟨fJ _,br _⟩ (Cq _) (λb o e=>kD _ (kD _ e)) (by rw[n];exact cZ _ 2)
  ⟨by rw[n];exact hi _,by rw[n];exact rd (hi _)⟩ (λb=>⟨(by heap_get:((c.push emptyDict).push (instObj C c.objs.size)).get? (c.objs.size+1)=some (instObj C c.objs.size)),#[],0,(kD _ (ji _ aa)),.l,⋯⟩)
 have K:gU aA.y (A.under (.builtin "type.__call__" ⟨.ref C::f,[]⟩)):=by
  refine⟨B.C,?_,?_⟩
  ·have:=B.y;refine(?_:A.depth+(Code.builtin "type.__call__" ⟨.ref C::f,[]⟩).weight+4*aA.y+10<=_);exact ex (.le (.b (.b (.b .a .r) (.f 4 .e)) (.y 10)) .l) (.le (.b (.b .a (.f 4 (.b .e .r))) (.y 10)) .l) this
  ·have:=B.a;refine(?_:A.units+(Code.builtin "type.__call__" ⟨.ref C::f,[]⟩).cUnits+20*aA.y+200<=_);exact ex (.le (.b (.b (.b .a .r) (.f 20 .e)) (.y 200)) .l) (.le (.b (.b .a (.f 20 (.b .e .r))) (.y 200)) .l) this
 have b:a1 ⟨⟨(c.push rn).push (nD C c.objs.size),g,d,k,l⟩,q++[(c.objs.size+1,c.objs.size)]⟩ (.ref (c.objs.size+1)) (.c (L H)):=by rw[<-R.W];exact a1.aP
 refine yb (aA.ok _ _ _ _ h _ ⟨⟨(c.push rn).push (nD C c.objs.size),g,d,k,l⟩,q++[(c.objs.size+1,c.objs.size)]⟩ (.ref (c.objs.size+1)::f) K J (.a b (G.u s.togh))) λr x z=>?_;rcases r with e|(_|_|_|v)<;>first|exact z.elim|skip
 obtain⟨x,j,M,N,P,u,z⟩:=z;refine bd (M5 z) ?_;rintro rfl S;cases N;exact⟨aa,.c (L H),j,M,b.u u.togh,P,s.y u,S⟩
theorem Qw (X:jR.In t.b.heap){C:ac}(n:vf jR C=af)(p:k1 jR (.ref C) "__init__"=O (O (.builtin "object.__init__"))){H:Z}{Q:bg}
 (h:mk H (.a C []) Q):jS t (aA.y+1) C [] H Q:=by
 intro A q y B R r;cases r;obtain⟨s,u⟩:=q;obtain⟨c,g,d,i,j⟩:=s;have k:jR.In c:= λa o e=>R.a a o (X a o e);have Y:=makes_of (M:=t.a) k n;refine make_core Y (looks_findIn k p) (λb=>Looks.of_pure (oi_bind b)) (.inr ⟨aa,aa⟩) ?_;have l:∀b o,c.get? b=O o->((c.push rn).push (nD C c.objs.size)).get? b=O o:= λb o e=>kD _ (kD _ e);have f:((c.push rn).push (nD C c.objs.size)).objs.size=c.objs.size+2:=by rw[oC,oC]
 have m:((c.push rn).push (nD C c.objs.size)).get? (c.objs.size+1)=O (nD C c.objs.size):=by heap_get
 obtain⟨v,w⟩:=R.al (ap:=⟨(c.push rn).push (nD C c.objs.size),g,d,i,j⟩) (p:=(c.objs.size+1,c.objs.size)) (o:=.a C []) ⟨fJ _,br _⟩ (Cq _) l (by rw[f];exact cZ _ 2)
  ⟨by rw[f];exact hi _,by rw[f];exact rd (hi _)⟩ (λy=>⟨m,#[],0,(kD _ (ji _ aa)),.l,⋯⟩)
 refine codeAny_call_builtin oi_plain entry_oi (@check_slot t.a _ _ _ "object.__init__" "object" "__init__" (.ref (c.objs.size+1)) [] [] _ oi_kind oi_split (((Looks.ld m).andThen .now).andThen (Y.top.keeps l)) (oi_args (.ref (c.objs.size+1))) ?_);rw[oi_run];exact cX (k0 aa ⟨.c (L H),_,_,(by rw[<-R.W];exact a1.aP:a1 ⟨⟨(c.push emptyDict).push (instObj C c.objs.size),g,d,i,j⟩,u++[(c.objs.size+1,c.objs.size)]⟩ (.ref (c.objs.size+1)) (x.c H.length)),v,w,h⟩)
inductive jW where
 |d (a a:j)(b:n H)
 |h (a:ac)
 |a
def bM (B:ac->Q jW)(P:gT)(C:aQ):aQ:= λf a H c=>a7 (B f) λd=>match d with
 |.d e g b=>dE (f1 (L a) e) (D3 P C g b a H c)
 |.h b=>C b (.c (L H)::a) (H++[.a f []]) λv e=>oX v (c (.c (L H)) e)
 |.a=>rE a (mk H (.a f []) c)
def ai7 (B:ac->Q jW)(P:gT)(n:j):aQ:=n.rec (λa a a a=>c8) λa=>bM B P
def zi (c:cQ)(G:aH->Q gs)(f:ac)(d:jW):Prop:=match d with
 |.d h i b=>∃a e g,Fo c f a e g/\y2 a g=O b/\a.h=G/\L e=h/\L a.b=i
 |.h a=>∃K:Frag,K.In c.b.heap/\vf K f=af/\k1 K (.ref f) "__init__"=O (O (.ref a))/\typeIn K (.ref a)=O (.type "function")
 |.a=>∃K:Frag,K.In c.b.heap/\vf K f=af/\k1 K (.ref f) "__init__"=O (O (.builtin "object.__init__"))
theorem Qx (T:d9 t){G:aH->Q gs}(j:∀x a,G x=O (.d a)->t.P.d a=af)(l:t.b.heap.NoLimit){B:ac->Q jW}(m:∀f d,B f=O d->zi t G f d)(k:ia t) {f g H i}
 (c:bM B t.P k.a f g H i):jS t (k.y+1) f g H i:=by
 obtain⟨d,n,c⟩:=DQ c;have D:=m f d n;induction d using jW.casesOn with
 |d b b b=>exact bd (nR c) λo e=>i0 D λb b b F p q=>c9 q λr s u=>Qu (aA:=k) T j r F p l ((oI o).trans s.symm) (by rw[u];exact e)
 |h p=>exact m8 D λK X e b o=>Qv (aA:=k) X e b o c
 |a=>refine dU D λK X e b=>?_;refine bd (tk c) ?_;rintro rfl c;exact Qw (aA:=k) X e b c
def Qy (h:∀a,a∈ct->f7 a=Fp a):ct.filterMap f7=ct.filterMap Fp:=by
 induction ct with
 |nil=>rfl
 |cons a ct c=>rw[KG,KG,h a (db ..),c λb d=>h b (dy _ d)]
theorem Qz (c:cO.Nodup)(d:L bv=L cO):(cO.filterMap λa=>((cO.zip bv).lookup a).map (a,·))=cO.zip bv/\∀a,a∈cO->((cO.zip bv).lookup a).isSome=true:=by
 induction cO generalizing bv with
 |nil=>exact⟨aa,λa h=>by cases h⟩
 |cons p cO e=>
  induction bv using cv with
  |nil=>injection d
  |cons v bv=>
   rw[pL]at c;refine bd (e (bv:=bv) c.2 (by simpa using d)) λf g=>⟨?_,λa b=>?_⟩
   ·rw[aiz,KG];rw[(by rw[lG,KH]:List.lookup p ((p,v)::cO.zip bv)=some v)];refine(?_:(p,v)::_=_);congr 1
    conv=>rhs;rw[<-f]
    refine Qy λa b=>?_;have:(a==p)=false:=by
     cases q:a==p with
     |false=>rfl
     |true=>exact b6 (k4 q▸b) c.1
    rw[lG,this]
   ·rw[aiz,lG];cases q:a==p with
    |true=>rfl
    |false=>
     rcases fw.mp b with rfl|b
     ·rw[KH]at q;injection q
     ·exact g a b
def QE:List.drop f ((ab.getD #[]:dC ae).toList)=[]:=J0
def QF {i:xT aV}{j:xT dr}(h:¬aV)(k:¬dr)(q:tP=Fq):(if aV then bW else if dr then b8 else tP)=Fq:=by rw[ce h,ce k];exact q
theorem qt {f:aH->Q ar}(h:∀a,a∈cO->(f a).isSome=af):¬(!(cO.filter λa=>(f a).isNone).isEmpty)=true:=by rw[aid.mpr λa b q=>by rw[Option.isNone_iff_eq_none]at q;injection(cp Option.isSome q).symm.trans (h a b)];exact qh
def QG {f:ar->e4->hg (ForInStep e4)}{g:e4->hg Fs}{r:hg Fs}(h:ct=[])(k:g mn=r):(forIn ct mn f>>=g)=r:=by subst h;exact k
theorem QH {a:sW}(d:a.params.posonlyargs=[])(e:a.params.args.map (·.arg)=cO)(f:a.params.kwonlyargs=[])(g:a.params.vararg=ab)(h:a.params.kwarg=ab)(i:a.defaults=.none)(m:cO.Nodup)
 (k:L bv=L cO):bindArgs a ⟨bv,[]⟩=dk (cO.zip bv):=by
 obtain⟨c,q,⟨o,j,p,r,b,s,b⟩,b,b,b,b,t,b,b,b,b,b,b⟩:=a;replace d:o=[]:=d;replace e:j.map (·.arg)=cO:=e;replace f:r=[]:=f;replace g:p=none:=g;replace h:s=none:=h;replace i:t=.none:=i;subst d f g h i;refine bd (Qz m k) λu v=>?_;subst e;refine QF (λq=>b6 (dT (((fu _ _).mp q).1:an (L bv>L (j.map (·.arg)))=af)) (by rw[k];exact pM _)) (qt λc l=>v c (List.mem_of_mem_take l)) (QG ((cp (List.zip _) QE).trans List.zip_nil_right) ?_)
 ·exact Eq.trans (cp (λl=>Sem.pure (List.filterMap (λc=>((List.map Arg.arg j|>.zip bv).lookup c).map (c,·)) l)) (ca _)) (cp Sem.pure u)
noncomputable def wa (o:g3):Bool:=o.cls==.type "tuple"&&o.dict.isNone&&f1 o.slots.size 0
def n4 (f:ar->Q e4)(l:n ar):Q (n e4):=l.rec (O []) λa c i=>(f a).bind λb=>i.map (b::·)
noncomputable def zj (d:Data)(z:ar)(f:dC ae->j->ar):ar:=if h:d.ctorIdx=2 then KI d h f else z
theorem zk {f:dC ae->j->ar}(e:zj fr bW f=b8)(n:bW=b8->aV)(k:∀a m,fr=.seq a m->f a m=b8->aV):aV:=by
 by_cases h:fr.ctorIdx=2
 ·exact KI (motive:= λfr=>∀h:fr.ctorIdx=2,KI fr h f=b8->(∀a m,fr=.seq a m->f a m=b8->aV)->aV) fr h (λa m b e k=>k a m aa e) h ((oE h).symm.trans e) k
 ·exact n ((oF h).symm.trans e)
noncomputable def zl (d:Data)(z:ar)(f:dC eL->j->ar):ar:=if h:d.ctorIdx=3 then KJ d h f else z
theorem Ft {f:dC eL->j->ar}(e:zl fr bW f=b8)(n:bW=b8->aV)(k:∀a m,fr=.dict a m->f a m=b8->aV):aV:=by
 by_cases h:fr.ctorIdx=3
 ·exact KJ (motive:= λfr=>∀h:fr.ctorIdx=3,KJ fr h f=b8->(∀a m,fr=.dict a m->f a m=b8->aV)->aV) fr h (λa m b e k=>k a m aa e) h ((oE h).symm.trans e) k
 ·exact n ((oF h).symm.trans e)
noncomputable def Fu (d:Data)(z:ar)(f:dC ae->ar):ar:=if h:d.ctorIdx=9 then KL d h f else z
theorem QI {f:dC ae->ar}(e:Fu fr bW f=b8)(n:bW=b8->aV)(k:∀a,fr=.fields a->f a=b8->aV):aV:=by
 by_cases h:fr.ctorIdx=9
 ·exact KL (motive:= λfr=>∀h:fr.ctorIdx=9,KL fr h f=b8->(∀a,fr=.fields a->f a=b8->aV)->aV) fr h (λa b e k=>k a aa e) h ((oE h).symm.trans e) k
 ·exact n ((oF h).symm.trans e)
noncomputable def Fv (d:Data)(z:ar)(f:sW->ar):ar:=if h:d.ctorIdx=7 then KM d h f else z
theorem QJ {f:sW->ar}(e:Fv fr bW f=b8)(n:bW=b8->aV)(k:∀x,fr=.func x->f x=b8->aV):aV:=by
 by_cases h:fr.ctorIdx=7
 ·exact KM (motive:= λfr=>∀h:fr.ctorIdx=7,KM fr h f=b8->(∀x,fr=.func x->f x=b8->aV)->aV) fr h (λx a e k=>k x aa e) h ((oE h).symm.trans e) k
 ·exact n ((oF h).symm.trans e)
noncomputable def r1 (d:ae)(z:ar)(f:m->Tok->ar):ar:=if h:d.ctorIdx=4 then KN d h f else z
theorem r2 {f:m->Tok->ar}(e:r1 bE bW f=b8)(n:bW=b8->aV)(k:∀i t,bE=.int i t->f i t=b8->aV):aV:=by
 by_cases h:bE.ctorIdx=4
 ·exact KN (motive:= λbE=>∀h:bE.ctorIdx=4,KN bE h f=b8->(∀i t,bE=.int i t->f i t=b8->aV)->aV) bE h (λi t a e k=>k i t aa e) h ((oE h).symm.trans e) k
 ·exact n ((oF h).symm.trans e)
noncomputable def wb (d:ae)(z:ar)(f:ac->ar):ar:=if h:d.ctorIdx=10 then KO d h f else z
theorem wc {f:ac->ar}(e:wb bE bW f=b8)(n:bW=b8->aV)(k:∀a,bE=.ref a->f a=b8->aV):aV:=by
 by_cases h:bE.ctorIdx=10
 ·exact KO (motive:= λbE=>∀h:bE.ctorIdx=10,KO bE h f=b8->(∀a,bE=.ref a->f a=b8->aV)->aV) bE h (λa b e k=>k a aa e) h ((oE h).symm.trans e) k
 ·exact n ((oF h).symm.trans e)
noncomputable def zm (d:ae)(z:ar)(f:aH->Tok->ar):ar:=if h:d.ctorIdx=6 then KP d h f else z
theorem Fw {f:aH->Tok->ar}(e:zm bE bW f=b8)(n:bW=b8->aV)(k:∀s t,bE=.str s t->f s t=b8->aV):aV:=by
 by_cases h:bE.ctorIdx=6
 ·exact KP (motive:= λbE=>∀h:bE.ctorIdx=6,KP bE h f=b8->(∀s t,bE=.str s t->f s t=b8->aV)->aV) bE h (λs t a e k=>k s t aa e) h ((oE h).symm.trans e) k
 ·exact n ((oF h).symm.trans e)
noncomputable def Fx (d:FuncBody)(z:ar)(f:n e0->ar):ar:=if h:d.ctorIdx=0 then KQ d h f else z
theorem QK {d:FuncBody}{f:n e0->ar}(e:Fx d bW f=b8)(a:bW=b8->aV)(k:∀b,d=.stmts b->f b=b8->aV):aV:=by
 by_cases h:d.ctorIdx=0
 ·exact KQ (motive:= λd=>∀h:d.ctorIdx=0,KQ d h f=b8->(∀b,d=.stmts b->f b=b8->aV)->aV) d h (λb c e k=>k b aa e) h ((oE h).symm.trans e) k
 ·exact a ((oF h).symm.trans e)
def mE (e:ab=O bW):aV:=by injection e
def wd (e:aN=af):aV:=by injection e
def QL (f:ae->be)(o:g3):be:=zj o.data ab λa b=>d5 (wa o&&e1 a.size 100) ((n4 f a.toList).map .r)
def zn (h:fS)(n:j):ae->be:=n.rec (λv=>r1 v ab λi b=>O (.e i)) λb f v=>r1 v (wb v ab λa=>(h.get? a).bind (QL f)) λi b=>O (.e i)
def Fy (f:ae->be)(e:eL):Q (m×x):=r1 e.key ab λk a=>d5 (e.hash==oA k) ((f e.val).map λv=>(k,v))
def QM (f:ae->be)(o:g3):Q b2:=zl o.data ab λa b=>d5 (o.cls==.type "dict"&&o.dict.isNone&&f1 o.slots.size 0) ((n4 (Fy f) a.toList).bind λl=>d5 (e1 (L l) 1000&&an (l.map (·.1)).Nodup) (O l))
def we (h:fS)(a:ac):Q b2:=(h.get? a).bind (QM (zn h 3))
def mF (h:fS)(a:ac):Q (dC eL):=(h.get? a).bind λo=>zl o.data ab λb c=>O b
def QN (v:ae):Bool:=zm v aN λa a=>af
def mG (a:dC eL):Bool:=a.toList.all λe=>QN e.key
def Fz (v:ae):Q Int:=r1 v ab λi a=>O i
def QO (a:ac)(o:g3):Q gs:=zj o.data (O (.c a)) λb c=>d5 (wa o&&e1 b.size 100) ((n4 Fz b.toList).map .r)
def zo (h:fS)(b:n ac)(v:ae):Q gs:=r1 v (wb v ab λa=>(match b.contains a with|true=>O (.d a)|false=>(h.get? a).bind (QO a))) λi a=>O (.e i)
noncomputable def tQ:n (ae×gs):=[(.builtin "len",.A .W),(.type "tuple",.A .a),(.type "list",.A .y),(.type "str",.A .f),(.builtin "sorted",.A .b),(.builtin "isinstance",.f),(.type "range",.e5)]
def tR (h:fS)(b:n ac)(c d:dC eL)(a:aH):Q gs:=match mf c a with
 |some v=>zo h b v
 |none=>(mf d a).bind λv=>tQ.lookup v
section
variable(kN:∀a K,cM.get? a=O K->t.b.heap.get? a=O K)
def zp (e:n4 f7 (bW::ct)=O iI):∃b a,f7 bW=O b/\n4 f7 ct=O a/\iI=b::a:=by obtain⟨b,c,d⟩:=c6 (show((f7 bW).bind λb=>(n4 f7 ct).map (b::·))=O iI from e);obtain⟨a,f,rfl⟩:=dQ d;exact⟨b,a,c,f,aa⟩
theorem FA (e:wa mm=af):∀{b:dC ae}{n:j},mm.data=.seq b n->mm={cls:=.type "tuple",data:=.seq b n}:=by intro b n c;simp only[wa,fu]at e;refine bd e ?_;clear e;intro f g;refine bd f λh i=>?_;obtain⟨a,d,k,l⟩:=mm;rw[(show a=.type "tuple" from k4 h),(by induction d using gA<;>first|rfl|injection i:d=none),(show l=#[]from aiA (oI g)),(show k=.seq b n from c)]
include kN in
theorem QP {f:ae->be}(g:∀v x,f v=O x->a1 ⟨t.b,[]⟩ v x){a:n ae}{l:E}(e:n4 f a=O l):bp ⟨t.b,[]⟩ a l/\L l=L a:=by
 clear kN;induction a generalizing l with
 |nil=>replace e:=aY e;subst e;exact⟨.l,aa⟩
 |cons v a c=>refine d0 (zp e) ?_;rintro b b h d rfl;exact⟨.a (g _ _ h) (c d).1,cp (·+1) (c d).2⟩
set_option tactic.hygienic true in
include kN in
theorem QQ (n:j):∀v x,zn cM n v=O x->a1 ⟨t.b,[]⟩ v x:=by
 induction n with
 |zero=>intro v x e;exact r2 e mE λi d q e=>q▸aY e▸.e _ _
 |succ n f=>intro v x e;refine r2 e (λe=>wc e mE λa q e=>aL (jG.mp e) λo g b=>zk b mE λa m h b=>bd (fq b) λc k=>?_) λi d q e=>q▸aY e▸.e _ _;rw[fu]at c;exact aL (h3.mp k) λl p s=>bd (QP kN f p) λr u=>q▸s▸.r (by have:=kN _ _ g;rw[FA c.1 h]at this;exact this) r (by rw[u,Ce];exact(rV (ea c.2)).1)
set_option tactic.hygienic true in
include kN in
theorem zq (e:we cM ak=O aI):∃a,t.b.heap.DictOf (lE t.d t.c) ak a/\dM ⟨t.b,[]⟩ a aI/\L aI<=de:=by
 refine aL (jG.mp e) λo v i=>Ft i mE λc w z i=>bd (fq i) λf A=>?_;simp only[fu]at f;obtain⟨b,B,C⟩:=c6 A;refine bd (fq C) λj l=>?_;replace l:=aY l;subst l;rw[fu,k2]at j;have D:∀{c:n eL}{aI:b2},n4 (Fy (zn cM 3)) c=O aI->∃a:n (m×ae),Pairs (lE t.d t.c) c a/\dM ⟨t.b,[]⟩ a aI/\∀e,e∈c->∃k,(lE t.d t.c).is k e.key=af/\e.hash=(lE t.d t.c).hash k:=by
  intro c;induction c with
  |nil=>intro aI e;replace e:=aY e;subst e;exact⟨[],.nil,.l,λe d=>by cases d⟩
  |cons e c E=>
   intro aI F;refine d0 (zp F) ?_;rintro b b p G rfl;refine dU (E G) λa r g s=>?_;obtain⟨y,H,I⟩:=e;refine r2 p mE λk q u p=>?_;replace u:H=.int k q:=u;subst u;refine bd (fq p) λh J=>?_;obtain⟨x,K,rfl⟩:=dQ J;refine⟨(k,I)::a,.cons (oD t.d t.c k q) aa r,.a (QQ kN 3 _ _ K) g,λe d=>?_⟩;rcases fw.mp d with rfl|d
   ·exact⟨k,oD t.d t.c k q,k4 h⟩
   ·exact s e d
 refine dU (D B) λa r g s=>⟨a,⟨o,c,w,kN _ _ v,⟨k4 f.1.1,?_,aiA (oI f.2)⟩,z,λe d=>s e (by simpa using d),r,by rw[g.i];exact j.2⟩,g,aU (ea j.1) (by have:de=1000000:=aa;exact lJ (.le (.y 1000) .a) (.l .a (.y 1000000)) [1,-1] this)⟩;have h:=f.1.2;cases q:o.dict with
 |none=>rfl
 |some _=>rw[q]at h;injection h
theorem QR (e:mG c5=af):StrKeys c5:= λx a=>by have:=mZ.mp e x (by simpa using a);exact Fw this wd λs t q b=>⟨s,t,q⟩
include kN in
theorem wf (e:mF cM ak=O c5)(k:mG c5=af):t.b.heap.Ns ak (mf c5):=by refine aL (jG.mp e) λo b a=>Ft a mE λd m c a=>?_;replace a:=aY a;subst a;exact⟨o,_,_,kN _ _ b,c,QR k,λd=>aa⟩
theorem QS (e:n4 Fz bv=O au):bp ⟨t.b,[]⟩ bv (au.map .e)/\L au=L bv:=by
 induction bv generalizing au with
 |nil=>replace e:=aY e;subst e;exact⟨.l,aa⟩
 |cons v bv c=>refine d0 (zp e) ?_;rintro b b a d rfl;exact r2 a mE λi b q a=>q▸aY a▸⟨.a (.e _ _) (c d).1,cp (·+1) (c d).2⟩
theorem FB {c d:Type} [BEq c] [LawfulBEq c] {l:n (c×d)}{a:c}{b:d}(e:l.lookup a=O b):(a,b)∈l:=by
 induction l with
 |nil=>injection e
 |cons p r f=>
  obtain⟨x,y⟩:=p;rw[lG]at e;cases q:a==x with
  |true=>rw[q]at e;replace e:=aY e;subst e;rw[k4 q];exact db ..
  |false=>rw[q]at e;exact dy _ (f e)
variable{pd:n ac}{pe:dC eL}
set_option tactic.hygienic true in
include kN in
theorem QT (h:mF cM ak=O c5)(j:mG c5=af)(k:mF cM gJ=O pe)(p:mG pe=af):tv t (tR cM pd c5 pe) ak gJ:=by
 refine⟨mf c5,mf pe,wf kN h j,wf kN k p,λg v e=>?_⟩;unfold tR at e;cases q:mf c5 g with
 |some u=>
  rw[q]at e;refine r2 (show zo cM pd u=O v from e) (λe=>wc e mE λa c e=>?_) λi s c e=>aY e▸⟨s,cp O c⟩;cases z:pd.contains a with
  |true=>rw[z]at e;exact aY e▸cp O c
  |false=>rw[z]at e;refine aL (jG.mp e) λo w b=>zk b (λb=>aY b▸cp O c) λi m x b=>bd (fq b) λd f=>?_;rw[fu]at d;refine aL (h3.mp f) λl y A=>bd (QS (t:=t) y) λr B=>A▸⟨_,cp O c,.r (by have:=kN _ _ w;rw[FA d.1 x]at this;exact this) r ?_⟩;rw[cj,B,Ce];exact(rV (ea d.2)).1
 |none=>rw[q]at e;obtain⟨u,b,f⟩:=c6 (show((mf pe g).bind λv=>tQ.lookup v)=O v from e);have m:=FB f;simp only[tQ,fw,Prod.mk.injEq,m0,or_false]at m;rcases m with⟨rfl,rfl⟩|⟨rfl,rfl⟩|⟨rfl,rfl⟩|⟨rfl,rfl⟩|⟨rfl,rfl⟩|⟨rfl,rfl⟩|⟨rfl,rfl⟩<;>exact⟨aa,b⟩
set_option tactic.hygienic true in
theorem QU (e:tR cM pd c5 pe a9=O (.d ak)):pd.contains ak=true:=by
 delta tR at e;cases q:mf c5 a9 with
 |some u=>
  rw[q]at e;refine r2 (show zo cM pd u=O (.d ak)from e) (λe=>wc e mE λb c e=>?_) λi t c e=>by injection aY e
  cases z:pd.contains b with
  |true=>rw[z]at e;injection aY e with e;exact e▸z
  |false=>rw[z]at e;refine aL (jG.mp e) λo f a=>zk a (λa=>by injection aY a) λf m f a=>aL (h3.mp (fq a).2) λl f d=>by injection d
 |none=>rw[q]at e;obtain⟨u,a,b⟩:=c6 (show((mf pe a9).bind λv=>tQ.lookup v)=O (.d ak)from e);have m:=FB b;simp[tQ]at m
end
section
variable(wg:fS)(FC:aH->Q gs)(FD:b0->j)(FE FF:ac)
def QV (o:g3):Q FuncData:=Fv o.data ab O
def QW (b:FuncBody):Q (n e0):=Fx b ab O
noncomputable def qu (a:sW):n Str:=a.params.args.map (·.arg)
noncomputable def FG (k:h5):Bool:=match k with|.local=>af|.cell=>af|_=>aN
def wh (a:sW):n Str:=(a.scope.names.filter λp=>FG p.2&&!(qu a).contains p.1).map (·.1)
def FH (a:sW):da:={f:=a.scope.names,b:=qu a++wh a,h:=FC,a:=FD,cells:=a.scope.names.any λp=>p.2==.cell}
noncomputable def wi (l:n ar):Bool:=match l with|[]=>af|_::_=>aN
def QX (q:aH)(o:g3):Bool:=Fu o.data aN λa=>(match a[1]?with|some v=>zm v aN λs b=>s==q|none=>aN)
def QY (v:ae)(q:aH):Bool:=wb v aN λa=>(match wg.get? a with|some o=>QX q o|none=>aN)
def FI (a:sW):Bool:=wi a.closure&&an (a.scope.kind=.function)&&!a.scope.isCoroutine&&!a.scope.isGenerator&&QY wg a.code a.qualname&&f1 a.globals FE&&f1 a.builtins FF&&
 wi a.params.posonlyargs&&wi a.params.kwonlyargs&&a.params.vararg.isNone&&a.params.kwarg.isNone&&a.defaults==.none&&an (qu a++wh a).Nodup&&(qu a++wh a).all λn=>(a.scope.names.lookup n).any FG
def FJ (f:ac):Q jW:=((wg.get? f).bind QV).bind λa=>(QW a.body).bind λb=>d5 (FI wg FE FF a) ((y2 (FH FC FD a) b).map λc=>.d (L (qu a)) (L (qu a++wh a)) c)
end
def zr (e:wi ct=af):ct=[]:=by induction ct using cv<;>first|rfl|injection e
def zs (e:fL.isNone=af):fL=none:=by induction fL using gA<;>first|rfl|injection e
set_option tactic.hygienic true in
theorem QZ (p:∀b o,cM.get? b=O o->t.b.heap.get? b=O o){G:aH->Q gs}{r:b0->j}{u w f:ac}(A:tv t G u w){d:jW}(e:FJ cM G r u w f=O d):zi t G f d:=by
 obtain⟨g,B,C⟩:=c6 e;obtain⟨o,D,E⟩:=c6 B;obtain⟨b,F,H⟩:=c6 C;refine bd (fq H) λh I=>?_;obtain⟨s,J,rfl⟩:=dQ I;have K:o.data=.func g:=QJ E mE λx q e=>aY e▸q;have L:g.body=.stmts b:=QK F mE λx q e=>aY e▸q;simp only[FI,fu,sR,k2,mZ]at h;refine bd h ?_;clear h;intro M N;refine bd M λP y=>bd P λR S=>bd R λT U=>bd T λV W=>bd V λX Y=>bd X λZ CS=>bd Z λOL i=>bd OL λajl k=>bd ajl λajm c=>bd ajm λajn ajo=>bd ajn λajp ajq=>bd ajp λajr ajs=>?_;have k:=oI k;have i:=oI i;refine⟨FH G r g,qu g,b,⟨⟨o,g,p _ _ D,K,L,zr ajr,aa,ajs,ajq,ajo,?_,by rw[k,i];exact A,λs ajt=>QH (zr CS) aa (zr Y) (zs W) (zs U) (k4 S) ((oH.mp y).1) ajt⟩,⟨_,aa⟩,y,λn aju=>?_⟩,J,aa,aa,aa⟩
 ·refine wc c wd λa ajv c=>?_;cases l:cM.get? a with
  |none=>rw[l]at c;injection c
  |some ajw=>
   rw[l]at c;refine QI c wd λz ajx c=>?_;cases m:z[1]?with
   |none=>rw[m]at c;injection c
   |some v=>rw[m]at c;exact Fw c wd λs ajy ajz c=>⟨a,ajw,z,ajy,ajv,p _ _ l,ajx,by rw[m,ajz,(k4 c)]⟩
 ·have:=N n aju;refine(?_:g.scope.names.lookup n=_\/g.scope.names.lookup n=_);cases q:g.scope.names.lookup n with
  |none=>rw[q]at this;injection this
  |some a=>rw[q]at this;induction a using Cj<;>first|(cases this;done)|exact .inl aa|exact .inr aa
def tS (h:fS)(b:n ac):Frag:=b.rec [] λa c f=>match h.get? a with|some o=>(a,o)::f|none=>f
theorem zt (f:∀b o,cM.get? b=O o->t.b.heap.get? b=O o)(c:n ac):(tS cM c).In t.b.heap:=by
 induction c with
 |nil=>intro a o e;injection e
 |cons x r d=>
  intro a o e;have e:Cp a (match cM.get? x with|some o=>(x,o)::tS cM r|none=>tS cM r)=O o:=e;cases q:cM.get? x with
  |none=>rw[q]at e;exact d a o e
  |some g=>
   rw[q]at e;have e:Cp a ((x,g)::tS cM r)=O o:=e;rw[lG]at e;cases z:a==x with
   |true=>rw[z]at e;replace e:=aY e;subst e;rw[k4 z];exact f _ _ q
   |false=>rw[z]at e;exact d a o e
set_option maxRecDepth 100000
def lX (l:n (j×ar))(a:j):Q ar:=l.rec ab λp b f=>match f1 p.1 a with|true=>O p.2|false=>f
noncomputable def wj:n Addr:=[91,102,109,116,123,130,137,144,151,158,165,172,179,186,193,200,217,238,256,292,384,405,426,437,444,451,458,465,536,599,610,615,622,629,636,643,650,657,664,671,719,726,754,761,768,775,782,789,796,803,810,827,846,855,862,869,876,883,890,897,904,911,918,935,954,973,992,1011,1030,1049,1068,1087,1106,1115,1132,1141,1148,1155,1162,1169,1176,1183,1190,1195,1202,1219,1228,1235,1242,1249,1254,1261,1268,1275,1282,1289,1296,1303,1310,1317,1324,1331,1338,1345,1352,1359,1364,1371]
noncomputable def wk:n (j×n j):=[(91,[11,29,44,52,70]),(217,[1,4,7,8,16,19,21,22,26,27,28,38,40,47,48,54,63,65,68]),(238,[2,15,20,32,38,41,64]),(292,[52]),(384,[0,5,22,31,35,40,46]),(405,[3,6,14,24,36,39,47,50,54,62,67]),(426,[1,10,12,25,30,42,53,59,69]),(599,[18,23,32,34,45,56,58,59,60,66])]
noncomputable def wl:n (j×n (j×ac)):=[(91,[(51,81),(49,88)]),(599,[(17,561),(57,568),(49,575),(33,582),(61,589),(43,596)]),(827,[(37,824)]),(935,[(37,932)]),(973,[(37,970)]),(992,[(37,989)]),(1011,[(37,1008)]),(1087,[(37,1084)]),(1106,[(37,1103)]),(1132,[(37,1129)]),(1219,[(37,1216)])]
noncomputable def FK:n (m×x):=[(0,.e 20),(1,.e 9),(2,.e 10),(3,.e 11),(4,.e 12),(5,.e 13),(6,.e 14),(7,.e 15),(8,.e 16),(9,.e 17),(10,.e 18),(11,.e 19),(12,.e 1),(13,.e 4)]
noncomputable def FL:n (m×x):=[(20,.e 0),(9,.e 1),(10,.e 2),(11,.e 3),(12,.e 4),(13,.e 5),(14,.e 6),(15,.e 7),(16,.e 8),(17,.e 9),(18,.e 10),(19,.e 11),(1,.e 12),(4,.e 13)]
noncomputable def FM:n (m×x):=[(4,.r [.r [.e 2,.e 1]]),(6,.r [.r [.e 2,.e 1],.r [.e 3,.e 1]]),(7,.r [.r [.e 2,.e 1]]),(8,.r [.r [.e 2,.e 2],.r [.e 4,.e 3]]),(9,.r [.r [.e 3,.e 3]]),(10,.r [.r [.e 2,.e 1]]),(11,.r [.r [.e 2,.e 3]]),(13,.r [.r [.e 3,.e 1]]),(14,.r [.r [.e 3,.e 1],.r [.e 4,.e 1]]),(15,.r [.r [.e 2,.e 1],.r [.e 3,.e 1]]),(16,.r [.r [.e 2,.e 1],.r [.e 3,.e 1]]),(17,.r [.r [.e 2,.e 1],.r [.e 3,.e 1],.r [.e 4,.e 1]]),(18,.r [.r [.e 2,.e 1],.r [.e 3,.e 1]]),(19,.r [.r [.e 2,.e 1]]),(20,.r [.r [.e 2,.e 1]]),(21,.r [.r [.e 2,.e 1]]),(22,.r [.r [.e 2,.e 1],.r [.e 3,.e 1]]),(23,.r [.r [.e 2,.e 1],.r [.e 3,.e 1]]),(25,.r [.r [.e 2,.e 2]]),(26,.r [.r [.e 2,.e 3]]),(27,.r [.r [.e 3,.e 1],.r [.e 4,.e 1]]),(28,.r [.r [.e 3,.e 1]]),(30,.r [.r [.e 2,.e 1]]),(31,.r [.r [.e 2,.e 3],.r [.e 3,.e 1]]),(33,.r [.r [.e 2,.e 1]]),(34,.r [.r [.e 2,.e 2],.r [.e 5,.e 3]]),(35,.r [.r [.e 3,.e 3]]),(36,.r [.r [.e 2,.e 2]])]
def zu:n (j×n (m×x)):=[(59,FK),(60,FL),(297,FM)]
noncomputable def FN:n Addr:=[91,217,238,292,384,405,426,536,599,827,846,935,954,973,992,1011,1030,1049,1068,1087,1106,1132,1219,487,508]
noncomputable def zv:n (j×jW):=[(91,.h 74),(217,.h 214),(238,.h 235),(292,.h 270),(384,.h 381),(405,.h 402),(426,.h 423),(536,.a),(599,.h 554),(827,.a),(846,.a),(935,.a),(954,.a),(973,.a),(992,.a),(1011,.a),(1030,.a),(1049,.a),(1068,.a),(1087,.a),(1106,.a),(1132,.a),(1219,.a)]
noncomputable def a2 (a:m):av:=.d (.e a)
noncomputable def bJ:av:=.s 0
noncomputable def aP:av:=.s 1
noncomputable def bt (a:av)(b:m):av:=.bz a (a2 b)
noncomputable def bn (a:j)(b:av):H:=.d (.s a) b
noncomputable def fx (a:av)(b:av):av:=.p .Eq a b
noncomputable def a5:av:=.s 2
noncomputable def bD:av:=.s 3
noncomputable def cw (a:av)(b:m):av:=fx a (a2 b)
noncomputable def zw (a:av)(b:j)(c:av):H:=.d (.x a b) c
noncomputable def bN:av:=a2 0
noncomputable def gX (a:av)(b:n H):H:=.h a b []
noncomputable def cn:av:=.s 5
noncomputable def b3:av:=a2 1
noncomputable def cq:av:=.s 4
noncomputable def di (a:m):av:=bt aP a
noncomputable def hG (a:av)(b:kg)(c:n av):H:=.f (.D a b c)
noncomputable def eH (a:ac)(b:av)(c:av):av:=.w a [b,c]
noncomputable def dF (a:j):av:=.d (.bG a)
noncomputable def dd (a:av)(b:m):av:=fx a (.u b)
noncomputable def eQ:av:=.d .C
noncomputable def cG (a:j):av:=.x bJ a
noncomputable def b9 (a:ac)(b:av):av:=eH a bJ b
noncomputable def c2 (a:av)(b:H):H:=gX a [b]
noncomputable def eA (a:av)(b:av):H:=c2 a (.c b)
noncomputable def d6 (a:n av):av:=.J .Or a
noncomputable def eR:av:=.u 1
noncomputable def cD (a:j)(b:av):H:=zw bJ a b
noncomputable def f9 (a:dn)(b:av)(c:n H):H:=.k a (.a b) c
noncomputable def f' (a:av)(b:j)(c:n av):av:=.D a (.d b) c
noncomputable def fy:av:=.y []
noncomputable def ee (a:j):av:=.B bJ a
noncomputable def eS:av:=di 1
noncomputable def eT:av:=di 2
noncomputable def hs (a:n av):H:=.c (.r a)
noncomputable def ht (a:bm):av:=.d (.d a)
noncomputable def gL (a:av)(b:av)(c:av):H:=.d (.bz a b) c
noncomputable def fH (a:n av):av:=.A .W a
noncomputable def gk:av:=.s 7
noncomputable def fV (a:n av):av:=.J .And a
noncomputable def fz (a:av)(b:m)(c:H):H:=c2 (cw a b) c
noncomputable def e7 (a:av)(b:n av):H:=hG a .i b
noncomputable def g':av:=.s 6
def Q0:n H:=[cD 52 fy,cD 29 (.G 2),cD 11 fy,cD 70 fy,cD 44 fy,.k (.s 1) (.e5 [.u 16]) [bn 2 (.r [eR,aP]),e7 (cG 52) [a5],gL (cG 29) a5 aP,e7 (cG 11) [b3],e7 (cG 70) [b3],e7 (cG 44) [bN]]]
def Q1:n H:=[c2 (d6 [.p .Lt aP bN,.p .GtE aP (fH [cG 52])]) .l,.c (.bz (cG 52) aP)]
def Q2:n H:=[bn 2 (.D (cG 29) .b [aP,.E b3]),eA (.p .GtE a5 bN) a5,.f (b9 123 aP),bn 3 b3,bn 4 b3,bn 5 bN,c2 (d6 [dd (di 0) 6,dd (di 0) 7]) (bn 5 b3),bn 6 (.w 109 [di 0]),f9 (.s 7) (.w 102 [aP]) [c2 (.p .Gt (.q .Add (.bz (cG 11) gk) g') bD) (bn 3 (.q .Add (.bz (cG 11) gk) g')),.m 4 .Add (.bz (cG 70) gk),fz (.bz (cG 44) gk) 1 (bn 5 b3)],c2 (.p .Gt bD (.u 24)) .l,c2 (.p .Gt cq (.u 4096)) .l,bn 8 (fH [cG 52]),e7 (cG 52) [aP],gL (cG 29) aP (.s 8),e7 (cG 11) [bD],e7 (cG 70) [cq],e7 (cG 44) [cn],.c (.s 8)]
def Q3:n H:=[bn 1 (bt bJ 0),eA (d6 [dd aP 2,dd aP 3]) (bt bJ 2),eA (d6 [dd aP 4,dd aP 5,dd aP 8,dd aP 9,dd aP 11]) (.r [bt bJ 1]),eA (dd aP 10) (.q .Add (.r [bt bJ 1]) (bt bJ 3)),hs []]
def Q4:n H:=[eA (d6 [dd bJ 2,dd bJ 3,dd bJ 4]) b3,.c bN]
def Q5:n H:=[eA (d6 [dd bJ 2,dd bJ 3]) (a2 3),eA (dd bJ 10) (a2 4),.c (a2 2)]
def Q6:n H:=[c2 (d6 [cw (fH [aP]) 0,.p .LtE (di 0) eR,.p .Gt (di 0) (.u 11)]) .l,bn 2 (di 0),c2 (.p .NotEq (fH [aP]) (.w 116 [a5])) .l,f9 (.s 3) (.w 102 [aP]) [hG bJ (.d 51) [bD]],.h (d6 [dd a5 2,dd a5 3]) [.f (b9 130 aP)] [.h (d6 [dd a5 6,dd a5 7]) [c2 (.p .Lt eS bN) .l] [.h (dd a5 10) [c2 (d6 [.z (b9 144 eS),.p .Lt eT bN]) .l,.f (b9 137 (di 3))] [.h (dd a5 8) [c2 (.z (d6 [b9 172 eS,b9 186 eS])) .l] [c2 (.z (b9 144 eS)) .l]]]]]
def Q7:n H:=[c2 (d6 [.p .LtE eS bN,.p .In eS (.aa 60)]) .l,.f (b9 137 eT)]
def Q8:n H:=[f9 (.s 2) aP [c2 (.z (b9 144 a5)) .l]]
def Q9:n H:=[eA (d6 [dd aP 0,dd aP 14]) (ht aN),bn 2 (bt (f' bJ 51 [aP]) 0),.c (d6 [.p .LtE a5 (.u 4),dd a5 6,dd a5 7])]
def Q':n H:=[.c (bt (f' bJ 51 [aP]) 0)]
def Ra:n H:=[bn 2 (f' bJ 51 [aP]),eA (d6 [dd (bt a5 0) 2,dd (bt a5 0) 3]) (bt a5 1),eA (dd (bt a5 0) 1) (.D (.aa 59) .b [aP,bN]),eA (dd (bt a5 0) 4) (.u 5),.c bN]
def Rb:n H:=[bn 2 (f' bJ 51 [aP]),eA (d6 [dd (bt a5 0) 2,dd (bt a5 0) 3]) (bt a5 2),hs []]
def Rc:n H:=[eA (fV [.p .LtE eR aP,.p .LtE aP (.u 11)]) (ht af),.c (dd (bt (f' bJ 51 [aP]) 0) 3)]
def Rd:n H:=[eA (d6 [dd aP 12,dd aP 13,dd aP 14]) (ht af),bn 2 (bt (f' bJ 51 [aP]) 0),.c (d6 [dd a5 2,dd a5 4,dd a5 8])]
def Re:n H:=[bn 2 (bt (f' bJ 51 [aP]) 0),.c (d6 [dd a5 6,dd a5 7])]
def Rf:n H:=[.c (fV [.p .LtE eR bJ,.p .LtE bJ (.u 11)])]
def Rg:n H:=[.c (fV [.p .LtE eR bJ,.p .LtE bJ (.u 6)])]
def Rh:n H:=[cD 63 aP,cD 40 a5,cD 54 bD,cD 22 cq,cD 4 cn,cD 27 fy,cD 47 fy,cD 68 fy,cD 7 fy,f9 (.s 8) g' [e7 (cG 47) [.s 8],e7 (cG 68) [.u 0],e7 (cG 7) [.r [bN,.r []]]],cD 19 fy,cD 38 fy,cD 1 gk,cD 8 bN,cD 65 (.E b3),cD 28 fy,cD 48 fy,cD 16 fy,cD 21 bN,cD 26 bN]
def Ri:n H:=[cD 32 (.w 91 []),cD 64 (.y [eQ]),cD 20 (.y [eQ]),cD 38 (.y [eQ]),cD 41 (.G 0),cD 2 fy,cD 15 bN]
def Rj:n H:=[.c (fV [dd (b9 151 aP) 3,dd (b9 158 aP) 8])]
def Rk:n H:=[cD 52 fy]
def Rl:H:=cD 35 aP
def Rm:H:=cD 40 a5
def Rn:H:=cD 31 bD
def Ro:H:=cD 22 cq
def Rp:H:=cD 46 cn
def Rq:H:=cD 0 (.E b3)
def Rr:H:=cD 5 bN
def Rs:n H:=[Rl,Rm,Rn,Ro,Rp,Rq,Rr]
def Rt:n H:=[cD 24 aP,cD 39 a5,cD 36 fy,cD 47 fy,cD 62 (.E b3),cD 50 bN,cD 6 eQ,cD 67 bD,cD 54 (.u 0),cD 14 (.E b3),cD 3 cq]
def Ru:n H:=[cD 59 aP,cD 1 a5,cD 25 (.y [eQ]),cD 69 (.y [eQ]),cD 42 (.G 0),cD 12 (.w 292 []),cD 30 (.G 0),cD 53 (.G 0),cD 10 (.G 0)]
def Rv:n H:=[bn 4 (fH [cG 25]),e7 (cG 25) [.w 405 [cq,aP,a5,bD]],c2 aP (gL (cG 42) aP cq),.c cq]
def Rw:H:=bn 5 (fH [cG 69])
def Rx:H:=e7 (cG 69) [.w 384 [cn,a5,bD,cq,aP]]
def Ry:H:=e7 (.x (.bz (cG 25) aP) 36) [cn]
def Rz:H:=c2 aP Ry
def RA:H:=.c cn
def RB:n H:=[Rw,Rx,Rz,RA]
def RC:n H:=[bn 2 fy,f9 (.r [.s 3,.s 4]) aP [bn 5 (.bz bJ bD),.h (dd cq 3) [hG a5 .a [cn]] [c2 (.p .IsNot cn eQ) (e7 a5 [cn])]],.c (.A .a [a5])]
def RD:n H:=[.c (b9 451 (.D (.aa 297) .b [bt bJ 0,.r []]))]
def RE:n H:=[bn 2 (.A .y [bJ]),bn 3 bN,f9 (.r [.s 4,.s 5]) (.D (.aa 297) .b [bt bJ 0,.r []]) [bn 6 (.bz bJ cq),.h (dd cn 3) [gL a5 cq (.A .a [.M aP bD (.q .Add bD (fH [g']))]),.m 3 .Add (fH [g'])] [gX (.p .IsNot g' eQ) [gL a5 cq (.bz aP bD),.m 3 .Add b3]]],.c (.A .a [a5])]
def FO:n H:=[cD 66 aP,cD 59 (.x aP 59),cD 32 (.x (.x aP 59) 32),cD 23 a5,cD 45 fy,cD 34 bN,cD 60 fy,cD 18 (.G 0),cD 58 (.G 0),cD 56 (.w 536 [])]
def RF:n H:=[.c (b9 610 aP)]
def RG:n H:=[.f (b9 622 aP)]
def RH:n H:=[e7 (cG 45) [aP]]
def RI:n H:=[cD 34 (.q .Add (cG 34) b3),.c (cG 34)]
def RJ:n H:=[.c (.w 444 [cG 66,.x (cG 23) 24,dF 96,aP,.u 32])]
def RK:n H:=[.c (.w 657 [bJ,aP,.r []])]
def RL:n H:=[bn 2 (.D (cG 18) .b [di 0]),eA (.p .Is a5 eQ) (b9 615 aP),.c (f' a5 37 [bJ,aP])]
def RM:n H:=[bn 2 (.w 458 [aP]),eA (.z a5) aP,.c (eH 465 aP (.H (eH 610 aP bJ) (.s 0) [0] (.a a5) []))]
def RN:n H:=[bn 2 (.D (cG 58) .b [di 0]),.h (.p .Is a5 eQ) [hG bJ (.d 49) [aP]] [hG a5 (.d 37) [bJ,aP]]]
def RO:n H:=[eA (.z bJ) aP,hs [.u 31,eS,.A .a [bJ],aP]]
def RP:n H:=[eA (fx (bt bJ 0) aP) (ht af),f9 (.s 2) (.w 458 [bJ]) [eA (eH 643 a5 aP) (ht af)],.c (ht aN)]
def RQ:n H:=[eA (dd (di 0) 1) (ht af),eA (dd (di 0) 3) (.z (eH 172 (cG 32) eS)),eA (.p .NotEq (di 0) (.u 2)) (ht aN),eA (.p .NotEq (.q .BitAnd (.x (.bz (.x (cG 66) 69) eT) 22) (.q .BitOr (.u 2) (.u 4))) bN) (ht aN),f9 (.s 3) a5 [eA (eH 636 bD eT) (ht aN)],.c (ht af)]
def RR:n H:=[eA (.w 650 [bJ,aP,a5]) (.r [.r [],aP]),bn 3 (.r [.u 2,eS,f' bJ 61 [eS]]),hs [.r [.r [.u 22,eS,bD,aP]],bD]]
def RS:n H:=[.c (d6 [b9 172 aP,b9 186 aP])]
def RT:n H:=[hs [eR,.r [.u 22,bt bJ 1,bJ,aP]]]
def RU:n H:=[eA (dd (di 0) 22) (.w 719 [bJ,aP,b3]),eA (dd (di 0) 23) (.w 726 [bJ,aP,b3]),.c (f' bJ 17 [aP])]
def RV:n H:=[hs [.u 8,eR,bJ,.r [bt bJ 1,.u 66,.r []],.r [],bN]]
def RW:n H:=[hs [.u 8,bt (eH 165 (cG 32) eS) 0,aP,.r [eS,.u 68,.r []],.r [],bN]]
def RX:n H:=[eA (fx (bt bJ 1) aP) bJ,hs [.u 19,aP,bJ,eR,bN]]
def RY:n H:=[hs [eR,bJ,eQ]]
def RZ:n H:=[eA (eH 664 (cG 32) eS) (.r [.u 19,.u 12,aP,.u 4,bN]),.c aP]
def R0:n H:=[eA (eH 256 (cG 32) eS) (.w 761 [aP]),bn 1 (b9 789 aP),hs [.u 14,eR,dF 89,aP,.w 782 [eS],bN]]
def R1:n H:=[eA (b9 256 aP) (bt (b9 165 aP) 0),.c aP]
def R2:n H:=[bn 2 (b9 789 (f' bJ 17 [eT])),bn 3 (eH 803 (cG 32) (di 3)),eA (.z (di 4)) (.r [.u 20,eR,a5,bD,bN]),bn 4 (.r [.u 2,.x (.bz (.x (cG 66) 69) (di 4)) 31,di 4]),gX (eH 179 (cG 32) bD) [bn 5 (.r [.u 22,bt cq 1,cq,.r [.u 21,bD,a5]]),hs [.u 31,eR,.r [cn],.r [.u 14,eR,dF 89,cq,.w 782 [bD],bN]]],.d (.r [.s 6,.s 7]) (f' bJ 43 [a5]),bn 5 (.r [.u 22,bt cq 1,cq,.r [.u 19,bt cq 1,gk,.u 5,bN]]),.c (eH 629 g' (.r [.u 15,eR,.r [.u 20,eR,gk,bD,bN],.r [.u 31,eR,.r [cn],.I [1,1,1]]]))]
def R3:n H:=[.c (eH 810 aP a5)]
def FP:n H:=[gL (cG 18) (.u 20) (.w 827 []),gL (cG 18) (.u 21) (.w 846 [])]
def R4:n H:=[eA (.z (eH 643 aP (.u 30))) aP,.c (f' (cG 56) 55 [bJ,aP])]
def R5:n H:=[.c (b9 862 (f' bJ 17 [aP]))]
def R6:n H:=[bn 1 (b9 754 aP),.h (eH 643 aP (.u 30)) [hG (cG 56) (.d 13) [bJ,aP]] [hG bJ (.d 49) [.r [eR,aP]]]]
def R7:n H:=[hs [.u 2,.x (.bz (.x (cG 66) 69) aP) 31,aP]]
def R8:n H:=[hG bJ (.d 49) [.r [.u 21,aP]]]
def R9:n H:=[hG bJ (.d 49) [.r [.u 20,aP]]]
def R':n H:=[bn 1 (b9 862 aP),gX (dd (di 0) 1) [c2 (fx eT a5) (.f (b9 890 bD)),.r],hG bJ (.d 49) [.r [.u 22,aP,a5,bD]]]
def Sa:n H:=[.f (.w 904 [bJ,f' bJ 17 [aP],a5,bD])]
def Sb:n H:=[eA (.z (cG 45)) (ht af),bn 1 (bt (.bz (cG 45) (.q .Sub (fH [cG 45]) b3)) 0),.c (fV [.p .NotEq aP (.u 21),.p .NotEq aP (.u 12),.p .NotEq aP (.u 13),.p .NotEq aP (.u 17)])]
def Sc:n H:=[.f (eH 876 aP (bt a5 1))]
def Sd:n H:=[f9 (.s 3) (bt a5 1) [hG aP (.d 57) [bD]]]
def Se:n H:=[bn 3 (f' aP 33 []),.f (.w 911 [aP,bt a5 1,bN,bD]),hG aP (.d 57) [bt a5 2],gX (.p .Is (bt a5 3) eQ) [.f (eH 897 aP bD),.r],bn 4 (f' aP 33 []),c2 (.w 918 [aP]) (.f (eH 890 aP cq)),.f (eH 897 aP bD),hG aP (.d 57) [bt a5 3],.f (eH 897 aP cq)]
def Sf:n H:=[bn 3 (bt a5 1),c2 (.p .IsNot bD eQ) (bn 3 (eH 869 aP bD)),hG aP (.d 49) [.r [.u 12,bD]]]
def Sg:n H:=[.f (eH 890 aP (bt (.bz (.x aP 60) (.q .Sub (fH [.x aP 60]) b3)) 0))]
def Sh:n H:=[.f (eH 890 aP (bt (.bz (.x aP 60) (.q .Sub (fH [.x aP 60]) b3)) 1))]
def wm:n H:=[e7 (cG 60) [.r [a5,bD]],hG bJ (.d 57) [aP],hG (cG 60) .s []]
def zx:n H:=[bn 3 (f' aP 33 []),bn 4 (f' aP 33 []),bn 5 (f' aP 33 []),.f (eH 890 aP cq),.f (eH 897 aP bD),.f (.w 1115 [aP,bt a5 2,cn,cq]),.f (eH 897 aP cq),.f (.w 911 [aP,bt a5 1,b3,bD]),.f (eH 897 aP cn)]
def Si:n H:=[gX (dd (eH 151 (cG 32) aP) 3) [bn 2 (.bz (.x (cG 59) 64) (eH 158 (cG 32) aP)),eA (.p .NotEq (.x a5 54) (.u 5)) (.E b3),bn 1 (.x a5 65)],eA (.z (.w 193 [aP])) (.E b3),eA (fV [.p .NotEq aP eR,.w 200 [aP]]) (.u 7),.c aP]
def Sj:n H:=[bn 3 (b9 1141 eS),hs [.u 14,eR,dF 92,eH 775 aP bD,.r [eR,bD,a5],bN]]
def Sk:n H:=[bn 2 (.u 7),c2 (d6 [.p .Lt aP (.E (a2 2147483648)),.p .Gt aP (a2 2147483647)]) (bn 2 (.u 9)),bn 3 (.r [.u 14,eR,dF 92,.r [.u 19,a5,bJ,.u 5,bN],.r [eR,a5,aP],bN]),hs [.u 15,eR,.r [.u 20,eR,bJ,a5,bN],bD]]
def Sl:n H:=[gX (.isStr a5) [c2 (.p .NotEq eS (.u 13)) (bn 1 (.r [.u 21,.u 13,b9 789 aP])),hs [.u 8,eR,eQ,.r [.u 13,.u 13,.r []],.r [aP,.r [eR,.u 13,a5]],bN]],eA (eH 256 (cG 32) eS) (.r [.u 15,eR,.w 761 [aP],.w 1148 [bJ,b9 768 aP,a5]]),eA (.p .GtE (b9 1141 eS) bN) (.w 1148 [bJ,aP,a5]),.c (eH 1155 (b9 789 aP) a5)]
def Sm:n H:=[eA (dd (bt a5 0) 1) (.w 1162 [bJ,aP,bt a5 1]),eA (dd (bt a5 0) 4) (.r [.u 13,eR,dF 88,b9 796 aP,bN]),bn 3 (.r [.u 20,eR,aP,bt a5 1,bt a5 2]),c2 (.p .IsNot (bt a5 3) eQ) (bn 3 (.r [.u 15,eR,bD,bt a5 3])),.c (f' bJ 17 [bD])]
def Sn:H:=bn 1 fy
def So:H:=bn 2 bN
def zy:H:=bn 3 a5
def Sp:H:=bn 3 cq
def FQ:H:=c2 (.p .Lt (.q .Sub (bt (.bz bJ cq) 0) (bt (.bz bJ a5) 0)) (.q .Mult (a2 2) (.q .Add (.q .Sub cq a5) b3))) Sp
def zz:H:=.k (.s 4) (.e5 [a5,fH [bJ]]) [FQ]
def Sq:H:=bn 3 a5
def zA:H:=c2 (.p .Lt (.q .Sub bD a5) (a2 3)) Sq
def wn:H:=e7 aP [.M bJ a5 (.q .Add bD b3)]
def wo:H:=bn 2 (.q .Add bD b3)
def zB:H:=.q (.p .Lt a5 (fH [bJ])) [zy,zz,zA,wn,wo]
def zC:H:=.c aP
def Sr:n H:=[Sn,So,zB,zC]
def FR:H:=bn 4 (bt (bt a5 0) 0)
def FS:H:=bn 5 (bt (.bz a5 (.q .Sub (fH [a5]) b3)) 0)
def FT:H:=bn 6 (.G 0)
def Ss:H:=gL g' gk (.s 8)
def FU:H:=c2 (.p .NotIn gk g') Ss
def FV:H:=f9 (.r [.s 7,.s 8]) a5 [FU]
def FW:H:=bn 9 fy
def FX:H:=e7 (.s 9) [.D g' .b [gk,bD]]
def FY:H:=.k (.s 7) (.e5 [cq,.q .Add cn b3]) [FX]
def FZ:H:=bn 10 (b9 1141 eS)
def F0:H:=bn 1 (eH 775 aP (.s 10))
def F1:H:=bn 11 (f' bJ 33 [])
def Su:H:=hG bJ (.d 49) [.r [.u 22,.r [.u 14,eR,dF 91,aP,.r [eR,.s 10,cq],bN],b3,.s 11]]
def Sv:H:=hG bJ (.d 49) [.r [.u 22,.r [.u 14,eR,dF 93,aP,.r [eR,.s 10,cn],bN],b3,.s 11]]
def F2:H:=gX (d6 [dd (.s 10) 9,dd (.s 10) 10]) [Su,Sv]
def Sw:H:=bn 1 (.r [.u 14,.s 10,dF 90,aP,.r [eR,.s 10,cq],bN])
def F3:H:=c2 (.p .NotEq cq bN) Sw
def Sx:H:=bn 1 (.r [.u 19,.u 7,aP,eR,bN])
def F4:H:=c2 (d6 [dd (.s 10) 9,dd (.s 10) 10]) Sx
def F5:H:=hG bJ (.d 49) [.r [.u 23,aP,.A .a [.s 9]]]
def F6:H:=.f (b9 897 (.s 11))
def F7:n H:=[FR,FS,FT,FV,FW,FY,FZ,F0,F1,F2,F3,F4,F5,F6]
def Sy:H:=.c (ht aN)
def F8:H:=c2 (.p .Lt (b9 1141 eS) bN) Sy
def Sz:H:=.c (ht aN)
def F9:H:=c2 (.p .NotEq (bt bD 0) eR) Sz
def F':H:=f9 (.r [.s 3,.s 4]) a5 [F9]
def Ga:H:=.c (ht af)
def Gb:n H:=[F8,F',Ga]
def Gc:H:=bn 4 (.G 0)
def zD:H:=bn 7 (.A .b [.H (.r [bt bJ 1,aP]) (.r [.s 0,.s 1]) [] (.a a5) []])
def zE:H:=.f (.w 1183 [bJ,aP,.s 8,bD])
def Gd:H:=gL cq (.s 9) b3
def zF:H:=f9 (.r [.s 9,.s 6]) (.s 8) [Gd]
def wp:H:=gX (.p .Gt (fH [.s 8]) b3) [zE,zF]
def zG:H:=f9 (.s 8) (.w 1176 [gk]) [wp]
def Ge:H:=gX (.w 1190 [bJ,aP,a5]) [zD,zG]
def SA:H:=.f (.w 904 [bJ,.w 1169 [bJ,aP,cn],b3,g'])
def wq:H:=c2 (d6 [.p .NotEq (bt cn 0) eR,.p .NotIn (bt cn 1) cq]) SA
def wr:H:=f9 (.r [.s 5,.s 6]) a5 [wq]
def Gf:n H:=[Gc,Ge,wr]
def Gg:H:=bn 2 (b9 869 eS)
def ws:H:=bn 3 (b9 883 (d6 [di 3,f' bJ 61 [bt a5 1]]))
def Gh:H:=hG bJ (.d 49) [eH 671 bD a5]
def Gi:H:=bn 4 (f' bJ 33 [])
def Gj:H:=bn 5 cq
def Gk:H:=bn 6 fy
def Gl:H:=bn 7 fy
def wt:H:=bn 10 (f' bJ 33 [])
def wu:H:=e7 g' [.s 10]
def SB:H:=bn 5 (.s 10)
def SC:H:=e7 gk [.r [.s 11,.s 10]]
def Gm:H:=.h (dd (bt (.s 11) 0) 2) [SB] [SC]
def wv:H:=f9 (.s 11) (.s 8) [Gm]
def Gn:H:=f9 (.r [.s 8,.s 9]) eT [wt,wu,wv]
def Go:H:=.f (.w 1195 [bJ,bD,gk,cn])
def zH:H:=.f (b9 890 cn)
def zI:H:=bn 12 bN
def SD:H:=bn 12 (bt (.bz (cG 60) (.q .Sub (fH [cG 60]) b3)) 1)
def tT:H:=c2 (cG 60) SD
def zJ:H:=e7 (cG 60) [.r [cq,.s 12]]
def ww:H:=.f (b9 897 (.bz g' (.s 13)))
def Gp:H:=hG bJ (.d 57) [.s 14]
def wx:H:=f9 (.s 14) (bt (.bz eT (.s 13)) 1) [Gp]
def SE:H:=.f (b9 890 cq)
def wy:H:=c2 (.w 918 [bJ]) SE
def zK:H:=.k (.s 13) (.e5 [fH [g']]) [ww,wx,wy]
def zL:H:=hG (cG 60) .s []
def zM:H:=.f (b9 897 cq)
def Gq:n H:=[Gg,ws,Gh,Gi,Gj,Gk,Gl,Gn,Go,zH,zI,tT,zJ,zK,zL,zM]
def SF:n H:=[.f (eH 1202 aP a5)]
def Gr:n H:=[gL (cG 58) eR (.w 935 []),gL (cG 58) (.u 2) (.w 954 []),gL (cG 58) (.u 3) (.w 973 []),gL (cG 58) (.u 4) (.w 992 []),gL (cG 58) (.u 12) (.w 1011 []),gL (cG 58) (.u 13) (.w 1030 []),gL (cG 58) (.u 16) (.w 1049 []),gL (cG 58) (.u 18) (.w 1068 [])]
def SG:n H:=[bn 2 (.q .Mod (ee 3) (fH [ee 81])),.p bJ 3 .Add b3,bn 3 (.bz (ee 81) a5),gL (ee 81) a5 (.q .FloorDiv bD (a2 7)),.c (.q .Mod bD aP)]
def SH:n H:=[bn 2 (.q .Add (a2 1000) (fH [ee 19])),gL (ee 19) a5 aP,hs [a2 5,aP,.r [a2 12,a5]]]
def SI:n H:=[hs [a2 4,b9 1242 b3,aP,eQ]]
def SJ:H:=.c (.A .a [.H (.w 1261 [bD,aP,a5]) (.s 0) [1,2,0] (.e5 [b9 1235 (a2 3)]) []])
def SK:n H:=[SJ]
def SL:H:=.p bJ 78 .Sub b3
def SM:H:=bn 3 (b9 1235 (a2 9))
def SN:H:=bn 3 (a2 2)
def Gs:H:=c2 (d6 [.p .Lt (ee 78) bN,fV [.p .Gt aP (a2 2),.p .Lt bD (a2 2)]]) SN
def SO:H:=.c (.w 1275 [bJ,aP,a5])
def SP:H:=fz bD 0 SO
def SQ:H:=hs [a2 5,b9 1242 b3,.r [a2 3,.q .Add (.r [.w 1275 [bJ,aP,a2 2]]) (.w 1254 [bJ,.q .Add aP b3,a2 2]),bN]]
def SR:H:=fz bD 1 SQ
def SS:H:=.c (b9 1249 (.r [a2 10]))
def SU:H:=fz bD 3 SS
def SV:H:=hs [a2 10]
def SW:H:=fz bD 4 SV
def SX:H:=.c (b9 1249 (.r [a2 11]))
def SY:H:=c2 (fV [cw bD 5,.p .Gt a5 b3]) SX
def SZ:H:=.c (b9 1249 (.r [a2 12,b9 1242 (a2 7)]))
def S0:H:=fz bD 6 SZ
def S1:H:=hs [a2 12,b9 1242 (a2 7)]
def S2:H:=fz bD 7 S1
def S3:H:=hs [b3,b9 1242 (.bz (.r [a2 7,a2 9,a2 13]) (b9 1235 (a2 3)))]
def zN:n H:=[SL,SM,Gs,SP,SR,SU,SW,SY,S0,S2,S3]
def S4:H:=bn 1 (b9 1235 (a2 13))
def zO:H:=bn 2 (.bz (.r [a2 7,a2 9,a2 8,a2 10,a2 4,a2 2,ee 72,ee 73,ee 74,bt (ee 80) 7,.bz (ee 80) (ee 73),a2 13,a2 12]) aP)
def zP:H:=hs [a5,.bz (.r [bN,a2 4294967294,a2 4294967200,a2 3,a2 150,a2 97,.E (a2 2),a2 4294967294,b3,.E (a2 2),a2 4294967294,bN,a2 2147483645]) aP]
def S5:n H:=[S4,zO,zP]
def Gu:H:=.d (.r [.s 3,.s 4]) (.w 1268 [bJ])
def Gv:H:=bn 5 fy
def Gw:H:=bn 6 fy
def Gx:H:=bn 8 fy
def Gy:H:=e7 (.s 8) [.r [b3,.C (d6 [cw bD 13,fV [cw bD 12,cw gk 1]]) (.q .Add (dF 99) (.A .f [cq])) cq]]
def Gz:H:=e7 cn [cq]
def GA:H:=.m 4 .Add (.bz (.r [b3,a2 2,a2 7]) (b9 1235 (a2 3)))
def GB:H:=.k (.s 9) (.e5 [.q .Add b3 (b9 1235 (a2 3))]) [Gy,Gz,GA]
def tU:H:=bn 10 (b9 1235 (a2 8))
def S6:H:=e7 (.s 8) [.r [a2 2]]
def tV:H:=c2 (fV [cw (.s 10) 1,cw gk 0]) S6
def S7:H:=e7 (.s 8) [.r [a2 4]]
def r3:H:=c2 (fV [cw (.s 10) 2,cw gk 0,d6 [cw bD 13,cw bD 12,.p .In bD (ee 77)]]) S7
def S8:H:=e7 (.s 8) [.w 1282 [bJ,.bz (.r [a2 7,a2 9,.C (cw bD 12) (a2 13) (ee 72)]) (b9 1235 (a2 3)),.s 10]]
def qv:H:=c2 (fV [.p .Gt (.s 10) (a2 4),.p .In bD (.r [a2 7,a2 9,a2 12,ee 72])]) S8
def nl:H:=e7 g' [.r [.A .a [.s 8],.w 1254 [bJ,.q .Add aP b3,.C (.p .Gt a5 bN) a5 b3]]]
def GC:H:=.k (.s 7) (.e5 [.q .Add b3 (b9 1235 (a2 3))]) [Gx,GB,tU,tV,r3,qv,nl]
def wz:H:=bn 11 (.q .Add (.bz cn (b9 1235 (fH [cn]))) (.bz (.r [bN,.E b3,b3]) (b9 1235 (a2 3))))
def wA:H:=bn 12 (b9 1235 (a2 4))
def S9:H:=.m 11 .Add (.bz (.r [bN,a2 4294967296,.E (a2 4294967296)]) (b9 1235 (.C (cw bD 10) (a2 2) (a2 3))))
def wB:H:=c2 (d6 [cw bD 9,fx bD (ee 73),cw bD 10]) S9
def S':H:=bn 11 (.q .Add (dF 99) (.A .f [.s 11]))
def Ta:H:=bn 11 (.bz (.r [.r [dF 94,.C (.p .Gt (.s 11) (a2 2147483647)) (a2 9) (a2 7),.s 11],.q .Add (dF 99) (.A .f [.s 11]),.r [dF 94,a2 9,.s 11],eQ]) (.s 12))
def Tb:H:=fz bD 12 Ta
def r4:H:=.h (cw bD 13) [S'] [Tb]
def Tc:H:=bn 11 eQ
def pf:H:=c2 (fV [cw (.s 12) 3,d6 [cw bD 13,.p .In bD (ee 77)]]) Tc
def zQ:H:=bn 13 (b9 1242 bD)
def zR:H:=gL (ee 75) (bt (bt (.s 13) 2) 1) (.s 11)
def zS:H:=hs [a2 9,.s 13,.A .a [g'],.C (cw (.s 12) 1) (.w 444 [ee 66,b3,dF 100,bD,bN]) bN]
def GD:n H:=[Gu,Gv,Gw,GC,wz,wA,wB,r4,pf,zQ,zR,zS]
def Td:H:=bn 3 (.C (.p .Lt a5 (a2 7)) (.w 444 [ee 66,b3,dF 99,aP,bN]) bN)
def Te:H:=hs [a2 3,aP,bD,.C (cw a5 6) eQ (b9 1242 b3)]
def Tf:n H:=[Td,Te]
def Tg:H:=bn 1 (.D (.h [a2 8,.r [.r [a2 2,bN],.r [a2 4,b3]],a2 13,.r [.r [a2 3,bN]],a2 14,.r [.r [a2 3,bN],.r [a2 4,bN]],a2 15,.r [.r [a2 2,bN],.r [a2 3,bN]],a2 19,.r [.r [a2 2,bN]],a2 20,.r [.r [a2 2,bN]],a2 21,.r [.r [a2 2,bN]],a2 22,.r [.r [a2 2,bN],.r [a2 3,bN]],a2 31,.r [.r [a2 2,b3],.r [a2 3,bN]]]) .b [bt bJ 0,.r []])
def Th:H:=bn 2 fy
def Ti:H:=bn 2 (.q .Add a5 (.A .y [.bz bJ bD]))
def Tj:H:=e7 a5 [.bz bJ bD]
def Tk:H:=c2 (.p .IsNot (.bz bJ bD) eQ) Tj
def Tl:H:=.h cq [Ti] [Tk]
def Tm:H:=f9 (.r [.s 3,.s 4]) aP [Tl]
def Tn:H:=.c a5
def To:n H:=[Tg,Th,Tm,Tn]
def Tp:H:=bn 1 (.y [bJ])
def GE:H:=bn 1 (.q .Add aP (.w 1296 [a5]))
def zT:H:=f9 (.s 2) (.w 1289 [bJ]) [GE]
def zU:H:=.c aP
def Tq:n H:=[Tp,zT,zU]
def zV:H:=e7 (ee 79) [aP]
def zW:H:=.p bJ 3 .Add b3
def wC:H:=.c (.C (.p .LtE (ee 3) (fH [ee 83])) (.bz (ee 83) (.q .Sub (ee 3) b3)) bN)
def Tr:n H:=[zV,zW,wC]
def GF:H:=bn 3 (b9 1317 a5)
def Ts:H:=.c bD
def GG:H:=c2 (.p .IsNot bD eQ) Ts
def GH:H:=f9 (.s 2) aP [GF,GG]
def tW:H:=.c eQ
def GI:n H:=[GH,tW]
def Tt:H:=bn 2 (di 0)
def Tu:H:=.c a5
def Tv:H:=c2 (d6 [cw a5 10,cw a5 11]) Tu
def Tw:H:=e7 (ee 79) [bt (bt eS 2) 1]
def Tx:H:=.c (.C (cw a5 1) eQ a5)
def Tz:H:=gX (d6 [cw a5 1,cw a5 12]) [Tw,Tx]
def TA:H:=.c (b9 1310 eS)
def TB:H:=fz a5 3 TA
def TC:H:=.c (.C (cw (b9 1303 (bt (bt eS 2) 1)) 1) (b9 1317 eT) eQ)
def TD:H:=fz a5 4 TC
def TE:H:=bn 3 (b9 1324 aP)
def TF:H:=.c (.C (cw bD 10) eQ bD)
def TG:H:=gX (cw a5 9) [TE,TF]
def GJ:H:=bn 3 (b9 1317 eT)
def TH:H:=.c (.C (cw bD 10) eQ bD)
def GK:H:=c2 (fV [.p .IsNot bD eQ,.p .NotEq bD (a2 11)]) TH
def zX:H:=.q (cw (b9 1303 (bt (bt eS 2) 1)) 1) [GJ,GK]
def zY:H:=.c eQ
def TI:n H:=[Tt,Tv,Tz,TB,TD,TG,zX,zY]
def GL:H:=bn 2 (bt (bt eS 2) 1)
def GM:H:=e7 (ee 79) [a5]
def GN:H:=bn 3 (.bz (.B (ee 85) 75) a5)
def GO:H:=bn 4 (.r [])
def TJ:H:=bn 4 g'
def TK:H:=.c (b9 1310 g')
def TL:H:=c2 (.w 1331 [bJ,bD,gk,bt eS 1]) TK
def GP:H:=.h (cw (bt gk 0) 2) [TJ] [TL]
def GQ:H:=f9 (.s 7) cn [GP]
def GR:H:=f9 (.r [.s 5,.s 6]) eT [GQ]
def GS:H:=.c (b9 1310 cq)
def GT:n H:=[GL,GM,GN,GO,GR,GS]
def TM:H:=.c (.p .Is aP eQ)
def TN:H:=fz (bt a5 0) 4 TM
def TO:H:=bn 4 (d6 [.p .Lt (bt a5 1) (.E (a2 2147483648)),.p .Gt (bt a5 1) (a2 2147483647)])
def TP:H:=.c (fx (.lc aP b3) (.r [.C cq (a2 9) (a2 7),bt a5 1]))
def TQ:H:=gX (fV [.L aP,.z (.isStr (bt a5 1))]) [TO,TP]
def TR:H:=.c (fx aP (bt a5 1))
def TS:H:=gX (cw (bt a5 0) 1) [TQ,TR]
def TT:H:=bn 5 (.C (.isStr aP) (a2 13) (.C (.p .Is aP eQ) bN (.C (.L aP) eS bD)))
def TU:H:=.c (fV [fx cn (bt a5 1),d6 [.p .Is (bt a5 3) eQ,cw (b9 1303 (bt (bt (bt a5 3) 2) 1)) 1]])
def TV:n H:=[TN,TS,TT,TU]
def GU:H:=bn 2 (.G 0)
def TW:H:=gL a5 (bt (.bz aP bD) 1) bD
def GV:H:=fz (bt (.bz aP bD) 0) 20 TW
def GW:H:=.k (.s 3) (.e5 [fH [aP]]) [GV]
def GX:H:=bn 4 bN
def zZ:H:=.p bJ 84 .Add b3
def TX:H:=.c (dF 95)
def wD:H:=c2 (.p .Gt (ee 84) (a2 2000)) TX
def wE:H:=bn 5 (.bz aP cq)
def wF:H:=.m 4 .Add b3
def wG:H:=bn 6 (.E b3)
def TY:H:=bn 6 (bt cn 1)
def TZ:H:=bn 6 (bt cn 3)
def T0:H:=bn 7 (.q .Mod (b9 1352 (bt cn 1)) (a2 4294967296))
def T1:H:=bn 6 (.bz (bt cn 2) gk)
def T2:H:=c2 (.p .Lt gk (fH [bt cn 2])) T1
def T3:H:=.f (b9 1352 (bt cn 1))
def T4:H:=.c (a2 12)
def T5:H:=fz (bt cn 0) 12 T4
def T6:H:=gX (d6 [cw (bt cn 0) 1,cw (bt cn 0) 12]) [T3,T5]
def T7:H:=.h (cw (bt cn 0) 23) [T0,T2] [T6]
def T8:H:=.h (fV [cw (bt cn 0) 22,fx (b9 1345 (bt cn 1)) (bt cn 2)]) [TZ] [T7]
def mH:H:=.h (cw (bt cn 0) 21) [TY] [T8]
def T9:H:=bn 4 (.bz a5 g')
def tX:H:=c2 (.p .GtE g' bN) T9
def GY:H:=.q (.p .Lt cq (fH [aP])) [zZ,wD,wE,wF,wG,mH,tX]
def GZ:H:=.c eQ
def G0:n H:=[GU,GW,GX,GY,GZ]
def T':H:=bn 2 (di 0)
def Ua:H:=.c (.C (cw (b9 1345 eT) 1) (b9 1345 (di 3)) bN)
def Ub:H:=fz a5 15 Ua
def Uc:H:=.c (.q .Sub b3 (b9 1345 (di 3)))
def Ud:H:=fz a5 13 Uc
def Ue:H:=.c (b9 1303 (bt eT 1))
def Uf:H:=fz a5 5 Ue
def Ug:H:=.f (b9 1352 bD)
def Uh:H:=f9 (.s 3) eT [Ug]
def Ui:H:=.c (b9 1345 (di 3))
def Uj:H:=gX (cw a5 31) [Uh,Ui]
def Uk:H:=.c (.C (.p .Is (b9 1352 eT) eQ) bN b3)
def Ul:H:=c2 (fV [cw a5 8,cw (bt (di 3) 1) 66]) Uk
def Um:H:=.c (.C (fx (b9 1352 (bt (di 4) 0)) (b9 1352 (bt (di 4) 1))) b3 bN)
def Un:H:=fz a5 8 Um
def Uo:H:=bn 4 (b9 1352 eT)
def Up:H:=bn 5 (.C (.isStr cq) (a2 13) (.C (.p .Is cq eQ) bN (bt cq 1)))
def Uq:H:=.c (.C (fx cn (di 3)) b3 bN)
def Ur:H:=gX (cw a5 20) [Uo,Up,Uq]
def Us:H:=.c eT
def Ut:H:=fz a5 1 Us
def Uu:H:=.d (.r [.s 6,.s 7]) (.r [b9 1352 (di 3),b9 1352 (di 4)])
def Uv:H:=.c (.C (fV [.p .NotEq g' gk,fx (.p .Lt g' gk) (fx eT (dF 91))]) b3 bN)
def Uw:H:=c2 (d6 [fx eT (dF 91),fx eT (dF 93)]) Uv
def Ux:H:=.c (.C (fx (fx g' gk) (fx eT (dF 92))) b3 bN)
def Uy:n H:=[T',Ub,Ud,Uf,Uj,Ul,Un,Ur,Ut,Uu,Uw,Ux]
def Uz:H:=bn 2 (di 0)
def UM:H:=.c eT
def UU:H:=fz a5 1 UM
def U0:H:=.c (.bz (ee 71) eT)
def U1:H:=fz a5 2 U0
def U2:H:=e7 (ee 79) [bt eT 1]
def U3:H:=.c (.D (.B (ee 85) 75) .b [bt eT 1,bN])
def U4:H:=gX (cw a5 5) [U2,U3]
def U5:H:=.c (.q .Sub (b9 1352 (di 3)) (b9 1352 (di 4)))
def U6:H:=fz a5 14 U5
def U7:H:=gL (ee 71) (bt eT 2) (b9 1352 (di 3))
def U8:H:=.c (.bz (ee 71) (bt eT 2))
def U9:H:=gX (cw a5 22) [U7,U8]
def U':H:=bn 3 (b9 1352 eT)
def Va:H:=.c (.C (cw (di 3) 4) (.r [dF 94,bt eT 1,bD]) (.C (cw (di 3) 5) (bt bD 2) bD))
def Vb:H:=fz a5 19 Va
def Vc:H:=.c (.C (.isStr bD) bD eQ)
def Vd:H:=fz a5 21 Vc
def Ve:H:=.c (.C (.p .Is bD eQ) bN bD)
def Vf:n H:=[Uz,UU,U1,U4,U6,U9,U',Vb,Vd,Ve]
def Vg:n H:=[.c (d6 [cw bJ 12,cw bJ 13])]
def Vh:H:=.c (ht aN)
def G1:H:=c2 (.z (b9 1364 a5)) Vh
def z0:H:=f9 (.s 2) (.w 1289 [aP]) [G1]
def z1:H:=.d (.r [.s 3,.s 4]) (.r [di 0,eS])
def wH:H:=bn 5 (.H (bt bJ 1) (.s 0) [] (.a (.w 1289 [aP])) [])
def Vi:H:=.c (.w 1359 [cq])
def Vj:H:=c2 (.p .Is eT eQ) Vi
def Vk:H:=.c (.C (.isStr eT) (cw cq 13) (.p .In cq (.r [b3,a2 7,a2 8,a2 9,a2 10])))
def G2:H:=gX (cw bD 1) [Vj,Vk]
def Vl:H:=.c (fx (.x (.bz (.x (ee 66) 69) eT) 31) cq)
def G3:H:=fz bD 2 Vl
def Vm:H:=.c (fx (.bz (ee 19) (bt eT 1)) cq)
def G4:H:=fz bD 5 Vm
def Vn:H:=.c (fx (.r [di 3,cq,eT,cn,di 5]) (.r [.r [a2 13,a2 13,.r []],b3,eQ,.y [a2 13,a2 13],bN]))
def Vo:H:=fz (bt (di 3) 0) 13 Vn
def Vp:H:=bn 6 (.D (.h [a2 66,b3,a2 68,.D (ee 77) .b [bt (di 3) 0,.E b3]]) .b [bt (di 3) 1,.E b3])
def z2:H:=.c (fV [.p .In (bt (di 3) 0) (ee 77),fx cn (.y [bt (di 3) 0]),fx (.r [cq,di 4,di 5]) (.r [g',.r [],bN])])
def G5:H:=gX (cw bD 8) [Vo,Vp,z2]
def Vq:H:=.c (fV [cw cq 1,fx cn (.q .Mult (.y [b3]) (fH [cn]))])
def z3:H:=c2 (d6 [cw bD 13,cw bD 15]) Vq
def Vr:H:=.c (fV [fx cn (.y [cq,cq]),.ep .LtE .LtE (a2 7) cq (a2 10)])
def Vs:H:=c2 (fx eT (dF 90)) Vr
def Vt:H:=.c (ht aN)
def Vu:H:=c2 (d6 [.p .NotEq (bt cn 0) (bt cn 1),.p .NotEq cq b3]) Vt
def Vv:H:=.c (d6 [.ep .LtE .LtE (a2 7) (bt cn 0) (a2 10),fV [.p .In eT (.r [dF 92,dF 89]),.w 1359 [bt cn 0]]])
def z4:H:=gX (cw bD 14) [Vs,Vu,Vv]
def Vw:H:=.c (fV [.p .In (bt cn 0) (ee 86),.p .In cq (ee 86)])
def Vx:H:=fz (di 3) 1 Vw
def Vy:H:=.c (fV [.p .In (bt cn 0) (ee 86),cw cq 12])
def Vz:H:=fz (di 3) 4 Vy
def VZ:H:=.c (fV [cw (di 3) 5,cw (bt cn 0) 12,.p .In cq (ee 86)])
def z5:H:=gX (cw bD 19) [Vx,Vz,VZ]
def V0:H:=.c (fV [cw cq 1,fx cn (.y [a2 12]),cw (di 4) 0,d6 [.p .In (di 3) (ee 86),cw (di 3) 13]])
def z6:H:=fz bD 20 V0
def V1:H:=.c (fV [.w 1359 [bt cn 0],.w 1359 [cq]])
def z7:H:=fz bD 21 V1
def V2:H:=.c (fx (.bz cn (.q .Sub (fH [cn]) b3)) cq)
def z8:H:=fz bD 31 V2
def z9:H:=.c (fV [cw bD 22,fx cn (.y [cq,cq]),cw (bt eT 0) 2])
def V3:n H:=[z0,z1,wH,G2,G3,G4,G5,z3,z4,z5,z6,z7,z8,z9]
def V4:H:=bn 3 (di 0)
def V5:H:=e7 (.bz a5 (.C (cw bD 20) (dF 49) (dF 76))) [eS]
def V6:H:=.c (ht af)
def V7:H:=gX (d6 [cw bD 20,cw bD 21]) [V5,V6]
def V8:H:=.c (ht aN)
def V9:H:=c2 (d6 [.p .NotIn bD (.r [b3,a2 12,a2 22,a2 23]),.z (b9 1364 eS)]) V8
def V':H:=e7 (.B a5 82) [bt (bt cq 2) 1]
def G6:H:=fz (bt cq 0) 5 V'
def Wa:H:=e7 (.B a5 87) [bt (bt cq 2) 2]
def G7:H:=fz (bt cq 0) 22 Wa
def wI:H:=f9 (.s 4) (.w 1296 [eS]) [G6,G7]
def Wb:H:=e7 (.B a5 76) [di 3]
def Wc:H:=.c (fV [cw (bt eS 1) 1,.p .In eT (.r [bN,b3])])
def pg:H:=gX (cw bD 22) [Wb,Wc]
def Wd:H:=.p a5 76 .Add (.A .y [eT])
def We:H:=.c (d6 [cw (bt eS 1) 7,cw (bt eS 1) 8])
def ph:H:=gX (cw bD 23) [Wd,We]
def pi:H:=.c (d6 [cw bD 1,cw (bt eS 1) 7])
def Wf:n H:=[V4,V7,V9,wI,pg,ph,pi]
def wJ:H:=bn 1 (.H (.q .Mod bJ (a2 1000000000)) (.s 0) [] (.a (.N bJ (a2 40))) [])
def Wg:H:=bn 1 (.y [b3,b3,b3,a2 2,bN,b3,bN,b3,b3,a2 3,b3,bN,bN,bN,bN,a2 2,bN,b3,b3,a2 12,b3,bN,bN,a2 5,b3,b3,a2 2,a2 2,bN,bN,bN,bN,bN,bN,a2 2,bN,bN])
def qw:H:=fz (fH [aP]) 0 Wg
def qx:H:=bn 2 (.H (.q .Mod (.q .Add (.q .FloorDiv (.bz aP (.q .Mod bJ (fH [aP]))) (.q .Add bJ b3)) bJ) (a2 2)) (.s 0) [1] (.e5 [a2 6]) [])
def z':H:=bn 3 (.w 238 [])
def Aa:H:=bn 4 (.x bD 32)
def Ab:H:=bn 5 (.K [dF 81,aP,dF 3,bN,dF 78,a2 5,dF 32,cq,dF 19,.G 0,dF 75,.G 0])
def Ac:H:=.d (.r [.B cn 72,.B cn 73,.B cn 74]) (.r [f' cq 49 [.r [a2 3,a2 64,.r []]],f' cq 49 [.r [a2 3,a2 65,.r []]],f' cq 49 [.r [a2 3,a2 66,.r []]]])
def Ad:H:=.d (.B cn 86) (.r [a2 2,a2 4,a2 7,a2 8,a2 9,a2 10,.B cn 72,.B cn 73,.B cn 74])
def Ae:H:=.d (.B cn 80) (.h [a2 7,f' cq 49 [.r [a2 3,a2 8,.r [a2 7]]],.B cn 73,f' cq 49 [.r [a2 3,a2 8,.r [.B cn 73]]]])
def Af:H:=.d (.B cn 77) (.h [bt (.B cn 80) 7,a2 7,.bz (.B cn 80) (.B cn 73),.B cn 73])
def Ag:H:=zw bD 64 (.q .Mult (.y [eQ]) (a2 64))
def Ah:H:=gL (.x bD 64) (a2 8) (.w 217 [a2 8,dF 101,a2 2,bN,.E b3,.r [dF 98],bN])
def Wh:H:=e7 (.x bD 64) [.w 217 [fH [.x bD 64],dF 97,a2 5,bN,.E b3,.r [],b3]]
def Wi:H:=zw (.bz (.x bD 64) (.q .Sub (fH [.x bD 64]) b3)) 65 g'
def Ai:H:=f9 (.s 6) (.r [a2 7,a2 9,a2 4]) [Wh,Wi]
def Aj:H:=bn 7 (eH 426 bD b3)
def Ak:H:=.d (.B cn 66) gk
def Al:H:=bn 8 (.bz (.x gk 25) (.w 437 [gk,bN,bN,bN]))
def wK:H:=bn 9 (.H (.w 1275 [aP,bN,bN]) (.s 0) [5] (.e5 [.q .Add b3 (eH 1235 cn (a2 2))]) [])
def tY:H:=bn 10 (fH [.x gk 69])
def tZ:H:=bn 11 (eH 599 gk (.s 8))
noncomputable def t0:H:=.f (.w 1228 [.s 11])
noncomputable def t1:H:=.f (.w 855 [.s 11])
def t2:H:=gL (.x (.s 11) 58) (a2 5) (.w 1132 [])
def t3:H:=bn 12 (.w 1219 [])
def t4:H:=gL (.x (.s 11) 58) (a2 9) (.s 12)
def t5:H:=gL (.x (.s 11) 58) (a2 10) (.w 1087 [])
def t6:H:=gL (.x (.s 11) 58) (a2 11) (.w 1106 [])
def G8:H:=hG (.s 12) (.d 37) [.s 11,.s 13]
def t7:H:=f9 (.s 13) (.s 9) [G8]
def r5:H:=bn 14 (.K [dF 49,fy,dF 76,fy,dF 87,fy,dF 82,fy])
def Wj:H:=.c (ht aN)
def G9:H:=c2 (.z (.w 1371 [cn,.s 13,.s 14])) Wj
def qy:H:=f9 (.s 13) (.x (.s 11) 45) [G9]
def Wk:H:=.c (ht aN)
def G':H:=c2 (.p .NotIn (.s 15) (.B (.s 14) 49)) Wk
def qz:H:=f9 (.s 15) (.B (.s 14) 76) [G']
def r6:H:=bn 16 (.A .b [.B (.s 14) 49])
def Wl:H:=.c (ht aN)
def qA:H:=c2 (.p .Gt (fH [.H bJ (.s 0) [16] (.e5 [b3,fH [.s 16]]) [fx (.bz aP bJ) (.bz aP (.q .Sub bJ b3))]]) bN) Wl
def Wm:H:=.c (ht aN)
def qB:H:=c2 (.p .NotEq (.A .b [.B (.s 14) 82]) (.A .b [.B cn 19])) Wm
def Wn:H:=.c (ht aN)
def Ha:H:=c2 (d6 [.p .NotIn (.x (.s 17) 35) (.B (.s 14) 87),.p .NotEq (.r [.x (.s 17) 22,.x (.s 17) 46]) (.r [a2 32,b3])]) Wn
def qC:H:=f9 (.s 17) (.lc (.x gk 69) (.s 10)) [Ha]
def r7:H:=bn 18 (.K [dF 85,cn,dF 83,a5,dF 3,bN,dF 79,fy,dF 71,.G 0,dF 84,bN])
def qD:H:=bn 19 (.K [dF 85,cn,dF 83,a5,dF 3,bN,dF 79,fy,dF 71,.G 0,dF 84,bN])
def pj:H:=bn 20 (eH 1310 (.s 18) (.s 9))
def pk:H:=.c (fV [fx (eH 1338 (.s 19) (.x (.s 11) 45)) (.s 20),fx (.B (.s 19) 79) (.B (.s 18) 79),fx (.B (.s 19) 3) (.B (.s 18) 3)])
def Hb:n H:=[wJ,qw,qx,z',Aa,Ab,Ac,Ad,Ae,Af,Ag,Ah,Ai,Aj,Ak,Al,wK,tY,tZ,t0,t1,t2,t3,t4,t5,t6,t7,r5,qy,qz,r6,qA,qB,qC,r7,qD,pj,pk]
inductive qE where
 |a
 |d (k a a:j)(b:n H)(l r:qE)
def qE.i (t:qE)(c:j):Q jW:=t.rec ab λk e h b i i f g=>match f1 k c with|true=>O (.d e h b)|false=>match kC c k with|true=>f|false=>g
def qE.e (t:qE):n (j×jW):=t.rec [] λk a c b d d p q=>p++(k,.d a c b)::q
def wL:qE:=(.d 810 2 8 R2 (.d 451 2 6 RC (.d 172 2 2 Rc (.d 123 2 4 Q6 (.d 102 1 2 Q3 (.d 81 2 2 Q1 (.d 74 1 3 Q0 .a .a) (.d 88 2 9 Q2 .a .a)) (.d 116 1 1 Q5 (.d 109 1 1 Q4 .a .a) .a)) (.d 151 2 2 Q' (.d 137 2 3 Q8 (.d 130 2 2 Q7 .a .a) (.d 144 2 3 Q9 .a .a)) (.d 165 2 3 Rb (.d 158 2 3 Ra .a .a) .a))) (.d 256 2 2 Rj (.d 200 1 1 Rg (.d 186 2 3 Re (.d 179 2 3 Rd .a .a) (.d 193 1 1 Rf .a .a)) (.d 235 1 1 Ri (.d 214 8 9 Rh .a .a) .a)) (.d 423 3 3 Ru (.d 381 6 6 Rs (.d 270 1 1 Rk .a .a) (.d 402 5 5 Rt .a .a)) (.d 444 5 6 RB (.d 437 4 5 Rv .a .a) .a)))) (.d 643 2 3 RP (.d 582 1 1 RI (.d 561 2 2 RF (.d 465 2 7 RE (.d 458 1 1 RD .a .a) (.d 554 3 3 FO .a .a)) (.d 575 2 2 RH (.d 568 2 2 RG .a .a) .a)) (.d 615 2 3 RM (.d 596 2 2 RK (.d 589 2 2 RJ .a .a) (.d 610 2 3 RL .a .a)) (.d 629 2 2 RO (.d 622 2 3 RN .a .a) .a))) (.d 768 2 2 RW (.d 671 2 2 RT (.d 657 3 4 RR (.d 650 3 4 RQ .a .a) (.d 664 2 2 RS .a .a)) (.d 761 1 1 RV (.d 754 2 2 RU .a .a) .a)) (.d 789 2 2 RZ (.d 782 1 1 RY (.d 775 2 2 RX .a .a) .a) (.d 803 2 2 R1 (.d 796 2 2 R0 .a .a) .a))))) (.d 1190 3 5 Gb (.d 989 3 5 Se (.d 890 2 2 R8 (.d 869 2 2 R5 (.d 855 1 1 FP (.d 824 3 3 R3 .a .a) (.d 862 2 2 R4 .a .a)) (.d 883 2 2 R7 (.d 876 2 2 R6 .a .a) .a)) (.d 918 1 2 Sb (.d 904 4 4 R' (.d 897 2 2 R9 .a .a) (.d 911 4 4 Sa .a .a)) (.d 970 3 4 Sd (.d 932 3 3 Sc .a .a) .a))) (.d 1148 3 4 Sj (.d 1115 4 4 wm (.d 1084 3 3 Sg (.d 1008 3 4 Sf .a .a) (.d 1103 3 3 Sh .a .a)) (.d 1141 2 3 Si (.d 1129 3 6 zx .a .a) .a)) (.d 1169 3 4 Sm (.d 1162 3 3 Sl (.d 1155 2 4 Sk .a .a) .a) (.d 1183 4 12 F7 (.d 1176 1 5 Sr .a .a) .a)))) (.d 1296 1 3 Tq (.d 1249 2 2 SI (.d 1228 1 1 Gr (.d 1202 2 15 Gq (.d 1195 4 10 Gf .a .a) (.d 1216 3 3 SF .a .a)) (.d 1242 2 3 SH (.d 1235 2 4 SG .a .a) .a)) (.d 1275 3 14 GD (.d 1261 3 4 zN (.d 1254 3 3 SK .a .a) (.d 1268 1 3 S5 .a .a)) (.d 1289 1 5 To (.d 1282 3 4 Tf .a .a) .a))) (.d 1345 2 8 Uy (.d 1324 2 8 GT (.d 1310 2 4 GI (.d 1303 2 2 Tr .a .a) (.d 1317 2 4 TI .a .a)) (.d 1338 2 8 G0 (.d 1331 4 6 TV .a .a) .a)) (.d 1364 2 7 V3 (.d 1359 1 1 Vg (.d 1352 2 4 Vf .a .a) .a) (.d 1376 1 21 Hb (.d 1371 3 5 Wf .a .a) .a))))))
def bK (a:ac):Q jW:=match wL.i a with|some d=>O d|none=>lX zv a
def al (c:ac->Q (n x)):gT:=⟨λC b=>(lX wl C).bind λl=>lX l b,λC b=>(match lX wk C with|some l=>l.any (f1 b)|none=>aN),lX zu,c,λa=>wj.contains a⟩
set_option maxRecDepth 10000
mutual
inductive dG (g:cd):x->x->Prop
 |C:dG g .C .C
 |d (b:bm):dG g (.d b) (.d b)
 |e (i:m):dG g (.e i) (.e i)
 |f (s:aH):dG g (.f s) (.f s)
 |h (b:ac):dG g (.h b) (.h b)
 |r {b h:E}:d1 g b h->dG g (.r b) (.r h)
 |c {i b:j}:g[i]?=O b->dG g (.c i) (.c b)
inductive d1 (g:cd):E->E->Prop
 |l:d1 g [] []
 |a {b y:x}{h k:E}:dG g b y->d1 g h k->d1 g (b::h) (y::k)
end
theorem d1.r {P:E->E->Prop}(n:P [] [])(c:∀{x y e f},dG aC x y->d1 aC e f->P e f->P (x::e) (y::f)){e f:E}(h:d1 aC e f):P e f:=
 d1.rec (motive_1:= λd d d=>fZ) (motive_2:= λe f d=>P e f) bY (λd=>bY) (λd=>bY) (λd=>bY) (λd=>bY) (λd d=>bY) (λd=>bY) n (λa b d g=>c a b g) h
inductive fO {K:Type}(b:cd):n (K×x)->n (K×x)->Prop
 |l:fO b [] []
 |a {k:K}{c y:x}{d e:n (K×x)}:dG b c y->fO b d e->fO b ((k,c)::d) ((k,y)::e)
inductive ej (a:cd):aX->aX->Prop
 |y {l m:E}:d1 a l m->ej a (.y l) (.y m)
 |h {l m:b2}:fO a l m->ej a (.h l) (.h m)
 |K {l m:n (j×x)}:fO a l m->ej a (.K l) (.K m)
 |c (l:bk):ej a (.c l) (.c l)
 |a (C:ac){l m:n (j×x)}:fO a l m->ej a (.a C l) (.a C m)
 |b:ej a .b .b
structure Hc (k:cd)(g d H:Z)(m y:x)(h:Z)(f:cd):Prop where
 b:f=k++(jI (L d-L g)).map (L H+·)
 aa:L g<=L d
 val:dG f m y
 W:L h=L H+(L d-L g)
 a:∀c:j,c<L H->c∉k->h[c]?=H[c]?
 e:∀(i c:j) o,f[i]?=O c->d[i]?=O o->∃l,h[c]?=O l/\ej f o l
def iq (f:x->bm)(l:E):Bool:=l.rec af λv a i=>match f v with|true=>i|false=>aN
def cB (n:j):x->Bool:=n.rec (λv=>v.D af (r:= λa=>aN) (t:= λa=>aN)) λa f v=>v.D af (r:= λa=>aN) (t:=iq f)
structure b4 (q:ac->Q E)(D:j->aQ):Prop where
 e:∀{C:aQ} {n f a H b},(∀f a H b,C f a H b->D n f a H b)->bM bK (al q) C f a H b->D (n+1) f a H b
 c4:∀{n m f a H b},n<=m->D n f a H b->D m f a H b
 imp:∀{n f a H} {b h:bg},(∀v d,b v d->h v d)->D n f a H b->D n f a H h
 pure:∀{n f a H b},iq (cB 9) a=af->D n f a [] (λv i=>dE (cB 9 v) (b v H))->D n f a H b
 frame:∀{n f a k H b} {c:cd}{g:Z},c.Nodup->L c=L g->(∀(i l:j) o,c[i]?=O l->g[i]?=O o->∃p,H[l]?=O p/\ej c o p)->d1 c k a->
  D n f k g (λx i=>∀y d l,Hc c g i H x y d l->b y d)->D n f a H b
noncomputable def ai8:n Addr:=[458,465,450]
def Wo (b:n ac)(P:gT)(_:j)(C:aQ):aQ:= λf a H Q=>match b.any (f1 f)with
 |true=>dE (iq (cB 9) a) (bM bK P C f a [] λv c=>dE (cB 9 v) (Q v H))
 |false=>bM bK P C f a H Q
def qF (b:n ac)(P:gT)(c:j):aQ:=sE (motive:= λa=>aQ) (λa a a a=>c8) (Wo b P) c
theorem lm {d D} (S:b4 d D){e:n ac}:∀{b f c H Q},qF e (al d) b f c H Q->D b f c H Q:=by
 intro b;induction b with
 |zero=>intro f c H Q h;exact h.elim
 |succ b g=>
  intro f c H Q h;have h:(match e.any (f1 f)with
   |true=>dE (iq (cB 9) c) (bM bK (al d) (qF e (al d) b) f c [] λv a=>dE (cB 9 v) (Q v H))
   |false=>bM bK (al d) (qF e (al d) b) f c H Q):=h
  cases q:e.any (f1 f)with
  |true=>rw[q]at h;exact bd (nR h) λi j=>S.pure i (S.e (λa a a a h=>g h) j)
  |false=>rw[q]at h;exact S.e (λa a a a h=>g h) h
theorem Am (I:E->aS->bI)
 (c:∀v r L H (K:bZ),I (v::r) L H->(∀a b,I r a b->K .next a b)->(∀x a b,G (.c x) a b->K (.c x) a b)->jr fG H (n5 v L H K))
 (d:∀L H,I [] L H->jr fG H (G .next L H)):∀{l L H},I l L H->ds n5 fG l L H G:=by
 intro l;induction l with
 |nil=>intro L H h;exact d L H h
 |cons v r e=>intro L H h;exact c v r L H _ h (λa b h=>e h) λx a b h=>h
theorem n6 (I:n ar->aS->bI)
 (d:∀v r L H (K:bZ),I (v::r) L H->(∀a b,I r a b->K .next a b)->(∀c a b,G (.c c) a b->K (.c c) a b)->jr fG H (n5 (t8 v) L H K))
 (e:∀L H,I [] L H->jr fG H (G .next L H)):∀{l L H},I l L H->ds n5 fG (l.map t8) L H G:=by
 intro l;induction l with
 |nil=>intro L H h;exact e L H h
 |cons v r f=>intro L H h;exact d v r L H _ h (λa b h=>f h) λc a b h=>h
theorem wM (I:j->aS->bI)
 (g:∀a L H (K:bZ),a<f->I a L H->(∀b c,I (a+1) b c->K .next b c)->(∀x b c,G (.c x) b c->K (.c x) b c)->jr fG H (n5 (.e (d+a)) L H K))
 (i:∀L H,I f L H->jr fG H (G .next L H)){L:aS}{H:Z}(h:I 0 L H):ds n5 fG (fT d f) L H G:=by
 have l:∀k a L H,a+k=f->I a L H->ds n5 fG (fT (d+a) k) L H G:=by
  intro k;induction k with
  |zero=>intro a L H e h;exact i L H (e▸h)
  |succ k n=>intro a L H e h;exact g a L H _ (e▸pS (vb k)) h (λb c h=>(mb d a 1).symm▸n (a+1) b c ((KR a 1 k).trans e) h) λx b c h=>h
 exact jg d▸l f 0 L H (m1 f) h
theorem An (I:E->bI)
 (c:∀v r H (K:be->bI),I (v::r) H->(∀a,I r a->K ab a)->(∀y a l,a[f]?=O (.y l)->L l+1<=de->I r (a.set f (.y (l++[y])))->K (O y) a)->jr fG H (t9 v H K))
 (d:∀H,I [] H->jr fG H (dm H)):∀{l H},I l H->hn t9 fG f l H dm:=by
 intro l;induction l with
 |nil=>intro H h;exact d H h
 |cons v r b=>intro H h;exact c v r H _ h (λa h=>b h) λy a l e z h=>ki e (fM z (b h))
theorem Hd (I:n ar->bI)
 (c:∀v r H (K:be->bI),I (v::r) H->(∀a,I r a->K ab a)->(∀y a l,a[f]?=O (.y l)->L l+1<=de->I r (a.set f (.y (l++[y])))->K (O y) a)->jr fG H (t9 (t8 v) H K))
 (d:∀H,I [] H->jr fG H (dm H)):∀{l H},I l H->hn t9 fG f (l.map t8) H dm:=by
 intro l;induction l with
 |nil=>intro H h;exact d H h
 |cons v r b=>intro H h;exact c v r H _ h (λa h=>b h) λy a l e g h=>ki e (fM g (b h))
theorem Wp {d:aS->Z->fp->Prop}{e:aS->Z->bZ->Prop}(I:j->aS->bI)
 (f:∀n L H (K:bZ),I n L H->(∀m a c,m<n->I m a c->K .next a c)->(∀x a c,G (.c x) a c->K (.c x) a c)->d L H λb H=>match b with|false=>G .next L H|true=>e L H K):
 ∀{n L H},I n L H->nU d e (n+1) L H G:=by
 intro n;have g:∀k n,n<k->∀L H,I n L H->nU d e k L H G:=by
  intro k;induction k with
  |zero=>intro n h;cases h
  |succ k i=>intro n l L H h;exact f n L H _ h (λm a c o h=>i m (fE (.lt .a .e) (.lt .l (.b .e .r)) (.lt .a .l) l o) a c h) λx a c h=>h
 intro L H h;exact g (n+1) n (hi n) L H h
def pl:(c++[aZ])[L c]?=O aZ:=by simp
def ai9:f5 (c++[.y k]) (L c) io=io k:=by unfold f5;rw[pl];rfl
def qG:(c++[aZ]).set (L c) df=c++[df]:=by rw[nH _ _ (br _),oJ];rfl
set_option maxRecDepth 100000
structure aq where
 h:aX
 k:aX
 e:E
 a:E
 r:m
 left:m
 c:bk
 W:b2
 d:cd
 f:E
 u:aO
 l:Z
def hH (i:m)(b:bk):b2:=b.rec (motive:= λa=>m->b2) (λa=>[]) (λk a f i=>(i,.e k)::f (i+1)) i
noncomputable def hV (a:j):x:=.c (a+75)
def kO (k:j)(l:E):E:=k.rec l λa f=>.C::f
def Ao (l:bk):E:=l.map .e
def wN (i:m)(n:j)(k:m)(r:j)(u v:m):aX:=.a 217 [(63,.e i),(40,.f (bG n)),(54,.e k),(22,.e 0),(4,.e (-1)),(27,.c r),(47,.c (r+1)),(68,.c (r+2)),(7,.c (r+3)),(19,.c (r+4)),(38,.c (r+5)),(1,.e u),(8,.e 0),(65,.e v),(28,.c (r+6)),(48,.c (r+7)),(16,.c (r+8)),(21,.e 0),(26,.e 0)]
def D (s:aq):Z:=s.h::
 s.k::
 .y s.a::
 .y s.e::
 .a 238 [(32,.c 5),(64,.c 22),(20,.c 12),(38,.c 13),(41,.c 14),(2,.c 15),(15,.e 0)]::
 .a 91 [(52,.c 6),(29,.c 7),(11,.c 8),(70,.c 9),(44,.c 10)]::
 .y ([0,1,2,3,4,5,6,7,8,9,10,11,12,13,14,15].map (λi=>.r [.e 1,.e i])++[.r [.e 3,.e 64,.r []],.r [.e 3,.e 65,.r []],.r [.e 3,.e 66,.r []],.r [.e 3,.e 8,.r [.e 7]],.r [.e 3,.e 8,.r [.e 17]]])::
 .c [-5164621852614943976,8389048192121911274,-3550055125485641917,-1440771752368011620,-6333845781340707986,173794974761290439,-4719279054211405927,-2609995681093775630,3897645075008222795,-995428953964473571,5512211802137524854,-3779219609819539640,2728421146282458785,-2164652882690237581,4342987873411760844,6452271246529391141,-1942840566862543037,7064488258016436223,-199889348905272767,-7963208272473238717,-3986444074279524944]::
 .y (Ao [1,1,1,1,1,1,1,1,1,1,1,1,1,1,1,1,1,1,1,2,2])::
 .y (Ao [1,1,1,1,1,1,1,1,1,1,1,1,1,1,1,1,1,1,1,2,2])::
 .y (Ao [0,0,0,0,0,0,0,0,0,0,0,0,0,0,0,0,0,0,0,0,0])::
 .y [.C]::
 .y [.C]::
 .y [.C]::
 .h []::
 .y []::
 .h (hH 1000 s.c)::
 .h s.W::
 .K [(81,.c 2),(3,.e s.r),(78,.e s.left),(32,.c 5),(19,.c 16),(75,.c 17),(72,.e 16),(73,.e 17),(74,.e 18),(86,.r [.e 2,.e 4,.e 7,.e 8,.e 9,.e 10,.e 16,.e 17,.e 18]),(80,.c 19),(77,.c 20),(66,.c 63)]::
 .h [(7,.e 19),(17,.e 20)]::
 .h [(19,.e 7),(20,.e 17)]::
 .y [.C]::
 .y (kO 8 (.c 23::kO 55 [.c 33,.c 43,.c 53]))::
 wN 8 101 2 24 0 (-1)::
 .y []::
 .y [.f (bG 98)]::
 .y [.e 0]::
 .y [.r [.e 0,.r []]]::
 .y []::
 .y []::
 .y []::
 .y []::
 .y []::
 wN 64 97 5 34 1 7::
 .y []::
 .y []::
 .y []::
 .y []::
 .y []::
 .y []::
 .y []::
 .y []::
 .y []::
 wN 65 97 5 44 1 9::
 .y []::
 .y []::
 .y []::
 .y []::
 .y []::
 .y []::
 .y []::
 .y []::
 .y []::
 wN 66 97 5 54 1 4::
 .y []::
 .y []::
 .y []::
 .y []::
 .y []::
 .y []::
 .y []::
 .y []::
 .y []::
 .a 426 [(59,.c 4),(1,.e 1),(25,.c 64),(69,.c 65),(42,.c 66),(12,.c 67),(30,.c 69),(53,.c 70),(10,.c 71)]::
 .y [.C,.c 72]::
 .y (.C::s.d.map hV)::
 .h []::
 .a 292 [(52,.c 68)]::
 .y []::
 .h []::
 .h []::
 .h []::
 .a 405 [(24,.e 1),(39,.e 0),(36,.c 73),(47,.c 74),(62,.e (-1)),(50,.e 0),(6,.C),(67,.e 0),(54,.e 0),(14,.e (-1)),(3,.e 0)]::
 .y s.f::
 .y []::s.l
noncomputable def nm (a k b:m)(c:aH):aX:=.a 384 [(35,.e a),(40,.f c),(31,.e k),(22,.e b),(46,.e 1),(0,.e (-1)),(5,.e 0)]
noncomputable def aq.D (s:aq)(b:E)(a:m):aq:={s with a:=b,r:=a}
noncomputable def aq.al (s:aq):aq:={s with left:=s.left-1}
noncomputable def aq.K (s:aq)(k:m):aq:={s with c:=s.c++[k]}
noncomputable def aq.i (s:aq)(o:aX):aq:={s with l:=s.l++[o]}
noncomputable def aq.X (s:aq)(i:j)(o:aX):aq:={s with l:=s.l.set i o}
noncomputable def aq.aL (s:aq)(f:m)(v:x):aq:={s with W:=s.W++[(f,v)]}
def aq.s (s:aq)(k a:m)(b:aH):aq:={s with d:=s.d++[L s.l],f:=s.f++[.e (L s.d+1)],u:=s.u++[(k,a)],l:=s.l++[nm (L s.d+1) k a b]}
abbrev aq.an (s:aq)(k:m)(a:aH):aq:=s.s k 0 a
noncomputable abbrev cW (k f:m):x:=.r [.e 5,.e k,.r [.e 12,.e f]]
theorem aja:a' (o2 (al q) (qF [] (al q) (f+9))) ((Hb.drop 3).take 13) ([O p,O (.c 2),O (.c 3)]++iW 18 ab) [aZ,df,.y k,.y I] G=
 G .next ([O p,O (.c 2),O (.c 3),O (.c 4),O (.c 5),O (.c 18),O (.e 4),O (.c 63),O (.c 72)]++iW 12 ab) (D ⟨aZ,df,I,k,0,5,[],[],[],[],[],[]⟩):=()
variable{h am cN wV:aq}
theorem Wq:bM bK (al q) A 1235 [.c 18,.e d] (D h) w=dE (!an ((L h.a:m)=0)) (a7 (dD h.a (h.r.fmod (L h.a))) λv=>
 cR v λi=>dE (rH i) (dE (an (0<=h.r.fmod (L h.a))&&an (h.r.fmod (L h.a)<(L h.a:m))) (cR v λj=>dE (!an (d=0))
  (w (.e (j.fmod d)) (D (h.D (h.a.set (h.r.fmod (L h.a)).toNat (.e (i.fdiv 7))) (h.r+1))))))):=()
def Wr:bM bK (al q) A 1242 [.c 18,.e d] (D h) w=fa (L (hH 1000 h.c)+1) (w (cW d (1000+L (hH 1000 h.c))) ((D h).set 16 (.h (bF (hH 1000 h.c) (1000+L (hH 1000 h.c)) (.e d))))):=()
def Ws:bM bK (al q) A 1249 [p,U] c w=A 1242 [p,.e 1] c λa c=>w (.r [.e 4,a,U,.C]) c:=()
theorem Wt:bM bK (al q) A 444 [.c 63,.e 1,.f a9,.e d,.e o] (D h) w=A 384 [.e (L (h.d.map hV)+1),.f a9,.e d,.e o,.e 1] (D h) λv H=>f5 H 65 λl=>fa (L l+1)
 (a7 (H.set 65 (.y (l++[v])))[63]? λb=>vz b λc e=>dE ((al q).x c 25) (a7 (bH e 25) λa=>ed (al q) a (.e 1) (H.set 65 (.y (l++[v]))) λx=>gH (al q) x 36 (H.set 65 (.y (l++[v]))) λy=>a7 (hD (al q) y .i (H.set 65 (.y (l++[v])))) λf=>jq (al q) A f y [.e (L (h.d.map hV)+1)] (H.set 65 (.y (l++[v]))) λg H=>w (.e (L (h.d.map hV)+1)) H)):=()
set_option maxRecDepth 10000
set_option genCtorIdx true in
inductive a3 where
 |c (n:m)
 |gM (s:aH)
 |a
 |d
 |b (k a:m)(f:Q m)
open Internal.a3 renaming casesOn->iD
inductive e8 where
 |a|b
 |c (f:m)
set_option genCtorIdx true in
inductive aW where
 |l
 |C (a b:aW)
 |p (t:e8)
 |o (k f:m)
 |W (f:m)(t:e8)
 |h (f:m)(b:aW)
 |c (k f a:m)(g:x)(s:aW)
 |d (a:n a3)(b r:aW)
noncomputable def Wu (f:Q m):x:=match f with|none=>.C|some f=>cW 1 f
def a3.u (l:a3):x:=match l with
 |.c n=>.r [.e 1,.e n]
 |.gM s=>.r [.e 1,.f s]
 |.a=>.r [.e 2]
 |.d=>.r [.e 4]
 |.b k e f=>.r [.e 3,.e k,.e e,Wu f]
noncomputable def e8.u (t:e8):x:=match t with
 |.a=>.r [.e 10]
 |.b=>.r [.e 11]
 |.c f=>.r [.e 12,cW 7 f]
def aW.an {c:Sort _}(e d:c)(f:n a3->aW->aW->c->c)(x:aW):c:=x.rec e (λa a a a=>d) (λa=>d) (λa a=>d) (λa a=>d) (λa a a=>d) (λa a a a a a=>d) λl b r a i=>f l b r i
def aW.u (x:aW):E:=x.rec [] (λa a i j=>i++j) (λt=>[t.u]) (λk f=>[.r [.e 1,cW k f]]) (λf t=>[.r [.e 4,cW 1 f,t.u,.C]]) (λf a i=>[.r [.e 5,cW 1 f,.r [.e 3,.r i,.e 0]]])
 (λk f l a a i=>[.r [.e 9,cW k f,.r i,.e l]]) λl a a i j=>.r [.r (l.map a3.u),.r i]::j
noncomputable def a3.y (l:a3):aO:=match l with|.b _ _ (O f)=>[(1,f)]|_=>[]
noncomputable def e8.y (t:e8):aO:=match t with|.c f=>[(7,f)]|_=>[]
def er (a:n a3):aO:=a.rec [] λl b i=>l.y++i
def aW.y (x:aW):aO:=x.rec [] (λa a i j=>i++j) e8.y (λk f=>[(k,f)]) (λf t=>(1,f)::t.y) (λf a i=>(1,f)::i) (λk f a a a i=>(k,f)::i) λl a a i j=>er l++(i++j)
def i8 (i:m)(b:bk):aO:=b.rec (motive:= λa=>m->aO) (λa=>[]) (λk a f i=>(k,i)::f (i+1)) i
theorem t':i8 d (au++cV)=i8 d au++i8 (d+L au) cV:=by
 induction au generalizing d with
 |nil=>show i8 d cV=i8 (d+((0:j):m)) cV;rw[show d+((0:j):m)=d by exact mi [] [_] (.b .a (.d .K)) .a]
 |cons x au a=>refine(?_:(x,d)::i8 (d+1) (au++cV)=(x,d)::(i8 (d+1) au++i8 (d+(L (x::au):m)) cV));rw[a,show d+(L (x::au):m)=d+1+L au by simp;exact mi [_] [_] (.b .a (.b (.d .a) .r)) (.b (.b .a .r) (.d .a))]
def ln (a:aO)(b k:m):Prop:=∃i:j,b=i+1/\a[i]?=O (k,0)
def ln.C (h:ln aj d o):ln (aj++dt) d o:=aL h λi e h=>⟨i,e,by rw[ek (cs.mp h).1];exact h⟩
def e8.ok (d:bm)(t:e8):Prop:=match t with|.b=>d=af|_=>fZ
def aW.D (x:aW):n a3:=x.an [] [] λl a a i=>l++i
def aW.X (x:aW):Nat:=x.an 0 0 λa a a i=>i+1
def aW.L (x:aW):Prop:=x.an fZ c8 λa a a i=>i
variable{kp:aW->Prop}{aB gb pv l3 HF:aW}{c3 ga:n a3}{cH:a3}{V:j->aQ}
@[elab_as_elim]def aW.aN (a:aB.L)(n:kp .l)(s:∀e b r,r.L->kp r->kp (.d e b r)):kp aB:=by
  induction aB with
  |l=>exact n
  |d e b r _ f=>exact s e b r a (f a)
  |_=>exact a.elim
def fc (b:n a3):bk:=b.rec [] λl a i=>l.casesOn (λc=>c::i) (λa=>i) i i λa a a=>i
def He:fc (c3++ga)=fc c3++fc ga:=by
 induction c3 with
 |nil=>rfl
 |cons l c3 a=>induction l using iD<;>first|exact cp (_::·) a|exact a
abbrev r8 (s:aH):Prop:=md s=af
def fP (k c:m)(d:aO)(l:a3):Prop:=match l with
 |.c n=>k≠13/\ -100<=n/\n<=4294968000
 |.gM s=>(k=13\/k=12)/\r8 s
 |.a=>fZ
 |.d=>k=12\/k=13\/k=19\/k=20
 |.b a b _=>((a=7\/a=9)/\(k=7\/k=9\/k=12\/k=16)\/a=16/\(k=7\/k=9\/k=16)\/a=13/\k=12)/\(b=0\/ln d b a/\b≠c)
def hW (k:m):Prop:=k=7\/k=9\/k=8\/k=10\/k=4\/k=2\/k=16\/k=17\/k=18\/k=19\/k=20\/k=13\/k=12
def Ap (k:m):Prop:=k=9\/k=10\/k=17
def i9 (k:m)(a:bk)(g:x):Prop:=
 (k=13/\(g=.C\/∃s,g=.f s/\r8 s))\/
 (k=12/\(g=.C\/(∃s,g=.f s/\r8 s)\/∃c v:m,(c=7\/c=9)/\g=.r [.f (bG 94),.e c,.e v]))\/
 ((k=19\/k=20)/\(g=.C\/∃v,g=.e v))\/
 ((k≠13/\k≠12/\k≠19/\k≠20)/\∃v:m,g=.e v/\(¬Ap k->∀n,n∈a-> -200<=v-n/\v-n<=200))
structure qH (k h:m)(g:x)(j:aO)(s:aW):Prop where
 i:hW k
 ep:s.L
 ld:h=0\/ln j h k
 D:∀l,l∈s.D->fP k h j l
 c:(fc s.D).Pairwise (·<·)
 e:∀a b,a∈fc s.D->b∈fc s.D->b-a<=100
 f:L (fc s.D)<=9
 X:L s.D<=12/\L (er s.D)<=3
 d:s.X<=3
 W:i9 k (fc s.D) g
def aW.al (x:aW):Prop:=x.rec fZ (λa a i j=>i/\j) (λa=>fZ) (λa a=>fZ) (λa a=>fZ) (λa a a=>fZ) (λa a a a a a=>fZ) λa a a a a=>c8
def aW.K (d:b2)(e:aO)(a:bm)(x:aW):Prop:=x.rec (motive:= λc=>bm->Prop) (λc=>fZ) (λc c i j a=>i a/\j a) (λt a=>t.ok a) (λc c c=>fZ) (λc t a=>t.ok a) (λc b i c=>i af/\b.al)
 (λk f l g s i a=>qH k l g e s/\bH d f=O g/\i a) (λc b c i j a=>(i a/\b.al)/\j a) a
theorem Wv {K:Type} [iU K] {l m:n (K×x)}{f:K}{g:x}(h:bH l f=O g):bH (l++m) f=O g:=by
 induction l with
 |nil=>injection h
 |cons p l b=>
  obtain⟨k,a⟩:=p;have h:(if k=f then O a else bH l f)=O g:=h;refine(?_:(if k=f then O a else bH (l++m) f)=O g);by_cases e:k=f
  ·rw[cP e]at h⊢;exact h
  ·rw[ce e]at h⊢;exact b h
theorem fP.C (h:fP d o aj cH):fP d o (aj++dt) cH:=by
 induction cH using iD with
 |b a a f=>exact⟨h.1,h.2.imp id λq=>⟨q.1.C,q.2⟩⟩
 |_=>exact h
theorem qH.C (h:qH d o p aj aB):qH d o p (aj++dt) aB:=
 ⟨h.i,h.ep,h.ld.imp id .C,λl a=>(h.D l a).C,h.c,h.e,h.f,h.X,h.d,h.W⟩
theorem aW.aL:∀{x:aW}{e:bm},x.K aI aj e->x.K (aI++eB) (aj++dt) e:=by
 intro x;induction x with
 |l=>intro e a;exact a
 |C dt b f i=>intro e a;exact⟨f a.1,i a.2⟩
 |p t=>intro e a;exact a
 |o k f=>intro e a;exact a
 |W f t=>intro e a;exact a
 |h f b j=>intro e a;exact⟨j (e:=af) a.1,a.2⟩
 |c k f g g s j=>intro e a;exact⟨a.1.C,Wv a.2.1,j a.2.2⟩
 |d m b r i g=>intro e a;exact⟨⟨i a.1.1,a.1.2⟩,g a.2⟩
structure jX where
 i:j
 b:j
 c:j
 a:j
def aW.e (p:jX)(x:aW):Nat:=x.rec 0 (λa a i j=>i+j) (λa=>p.b) (λa a=>p.i) (λa a=>p.b) (λa a i=>p.c+i) (λa a a a a i=>p.a+i) λa a a i j=>i+j
structure kq where
 y:j->j->j->j
 a:j->j->j->j
 r:j->j->j->j
 l:j->j->j->j
 b:j->j->j->j
structure kq.aL (t:kq)(p:jX):Prop where
 a:∀d,d<=3->p.i<=t.y d 0 0
 b:∀d x,d<=3->x<5->p.b<=t.y d (x+1) x/\p.i<=t.y d (x+1) x
 h:∀d x y,d<3->x<5->y<=x->p.c+p.a+t.b (d+1) x y<=t.y d (x+1) y
 c:∀d x y,d<3->x<5->y<=x->p.a+t.l (d+1) x y<=t.y d (x+1) y
 e:∀d x y,d<=3->x<=5->y<=x->t.y d x y<=t.a d x y
 f:∀d x y z,d<=3->x<=5->y<=x->z<=y->t.y d x y+t.y d y z<=t.a d x z
 pm:∀d x y z,d<=3->x<=5->y<=x->z<=y->t.a d x y+t.a d y z<=t.r d x z
 r9:∀d x y z,d<=3->x<=5->y<=x->z<=y->t.r d x y+t.a d y z<=t.l d x z
 i:∀d x y z,d<=3->x<=5->y<=x->z<=y->t.l d x y+t.a d y z<=t.b d x z
set_option maxRecDepth 100000
def Ww:L (hH d au)=L au:=by
 induction au generalizing d with
 |nil=>rfl
 |cons k r a=>exact cp (·+1) a
theorem Wx:∀{i:m},bF (hH i au) (i+L au) (.e d)=hH i (au++[d]):=by
 induction au with
 |nil=>intro i;rw[show i+(L ([]:bk):m)=i from jg i];rfl
 |cons a r b=>intro i;rw[show i+(L (a::r):m)=i+1+L r by rw[hM];exact mi [_] [_] (.b .a (.d (.b .a .r))) (.b (.b .a .r) (.d .a))];exact(ce (show¬i=i+1+(L r:m) by exact pY [_] [_] (.b (.Eq .a (.b (.b .a .r) (.d .a)))) [-1])).trans (cp ((i,x.e a)::·) b)
theorem Wy:∀{i:m}{a:j},au[a]?=O d->bH (hH i au) (i+a)=O (.e d):=by
 induction au with
 |nil=>intro i a h;injection h
 |cons x r b=>
  intro i a h;induction a using dx with
  |zero=>replace h:=aY h;subst h;exact cP (jg i).symm
  |succ a=>refine(ce (show¬i=i+((a+1:j):m) by exact pY [_] [_] (.b (.Eq .a (.b .a (.d (.b .a .r))))) [-1])).trans ?_;rw[show i+((a+1:j):m)=i+1+a by exact mi [_] [_] (.b .a (.d (.b .a .r))) (.b (.b .a .r) (.d .a))];exact b h
structure hI (b:E)(a:m):Prop where
 o:0<L b
 X:∀v,v∈b->∃i:m,v=.e i/\0<=i/\i<=1000000000
 gK:0<=a
def i' (r:Z)(a:cd)(c:aO):Prop:=L a=L c/\a.Nodup/\∀(i d:j) b,a[i]?=O d->c[i]?=O b->∃e,r[d]?=O (nm (i+1) b.1 b.2 e)
structure dH (s:aq):Prop where
 c:hI s.a s.r
 a:i' s.l s.d s.u
 b:L s.f=L s.u
 e:∀p,p∈s.W->p.1<1000+(L s.c:m)
 ld:s.left<=5
 f:L s.W<=L s.c
 d:(∀p,p∈s.u->p.2=0)/\(∀p,p∈s.W->cB 9 p.2=af)/\∀v,v∈s.f->cB 9 v=af
structure dI (s t:aq):Prop where
 e:(t.e,t.h,t.k)=(s.e,s.h,s.k)
 left:t.left<=s.left
 c:∃a,t.c=s.c++a
 u:∃a,t.u=s.u++a
 W:∃a,t.W=s.W++a
 l:∃a,t.l=s.l++a
def n7 (x:∃y,nn=ct++y)(z:∃y,Hf=nn++y):∃y,Hf=ct++y:=by refine bu x ?_;clear x;rintro y rfl;refine bu z ?_;clear z;rintro w rfl;exact⟨_,bU ..⟩
def gl (a:n ar):∃y,a=a++y:=⟨[],(ca a).symm⟩
theorem dI.y (x:dI h am)(y:dI am cN):dI h cN:=⟨y.e.trans x.e,jh y.left x.left,n7 x.c y.c,n7 x.u y.u,n7 x.W y.W,n7 x.l y.l⟩
def i'.C (h:i' c aC aj):i' (c++bb) aC aj:=
 ⟨h.1,h.2.1,λi j a e b=>(h.2.2 i j a e b).imp λd e=>(ek (cs.mp e).1).trans e⟩
def i'.X (h:i' c aC aj) (e:c[f]?=O (.y k)):i' (c.set f aZ) aC aj:=
 ⟨h.1,h.2.1,λb d g i l=>(h.2.2 b d g i l).imp λm a=>(sB (by rintro rfl;rw[e]at a;replace a:=aY a;injection a)).trans a⟩
def i'.lt (h:i' c aC aj){a:j}(d:a∈aC):a<L c:=by refine bu (sS d) λi b=>bu (h.2.2 i a _ b (eM (h.1▸(cs.mp b).1))) λf e=>?_;exact(cs.mp e).1
theorem i'.K (h:i' c aC aj):i' (c++[nm (L aC+1) d o a9]) (aC++[L c]) (aj++[(d,o)]):=by
 refine⟨by rw[a6,a6,h.1];rfl,?_,λi j g e f=>?_⟩
 ·rewrite [oH]
  exact⟨h.2.1,pL.mpr ⟨m0,Cu⟩,λa k b l e=>pM _ (h.lt (show L c∈aC from cz.mp l▸e▸k))⟩
 ·rw[aiB]at e f;by_cases q:i<L aC
  ·rw[cP q]at e;rw[cP (h.1▸q)]at f;exact(h.2.2 i j g e f).imp λa e=>(ek (cs.mp e).1).trans e
  ·rw[ce q]at e;rw[ce (h.1▸q)]at f;cases z:i-L aC with
   |succ a=>rw[z]at e;injection e
   |zero=>rw[z]at e;rw[<-h.1,z]at f;replace e:=aY e;subst e;replace f:=aY f;subst f;exact⟨a9,by rw[(kB (g6 (.le .a .e) (.l .l .K) (.l (.b .l .e) .a) [1,1,-1] z (dc (hw.mp q))) (ex (.le .a .e) (.l (.b .l .a) .e) (dc (hw.mp q))):i=L aC),hh (br _),oJ];rfl⟩
theorem dH.D (b:dH h)(a:hI k d):dH (h.D k d):=⟨a,b.a,b.b,b.e,b.ld,b.f,b.d⟩
theorem dI.D:dI h (h.D k d):=⟨aa,g2 _,gl _,gl _,gl _,gl _⟩
theorem dH.i (b:dH h):dH (h.i aZ):=⟨b.c,b.a.C,b.b,b.e,b.ld,b.f,b.d⟩
theorem dI.i:dI h (h.i aZ):=⟨aa,g2 _,gl _,gl _,gl _,⟨_,aa⟩⟩
theorem dH.K (b:dH h):dH (h.K d):=⟨b.c,b.a,b.b,λp a=>B0 (b.e p a) (by show _<=1000+(L (h.c++[d]):m);rw[a6];exact jl (.a (.b (.y 1000) (.d .a)) (.b (.y 1000) (.d (.b .a .e))))),b.ld,aU b.f (by show _<=L (h.c++[d]);rw[a6];exact cZ _ _),b.d⟩
theorem dI.K:dI h (h.K d):=⟨aa,g2 _,⟨_,aa⟩,gl _,gl _,gl _⟩
theorem dH.al (b:dH h):dH h.al:=⟨b.c,b.a,b.b,b.e,jh (Int.sub_le_self _ ⋯) b.ld,b.f,b.d⟩
theorem dI.al:dI h h.al:=⟨aa,Int.sub_le_self _ ⋯,gl _,gl _,gl _,gl _⟩
theorem dH.an (b:dH h):dH (h.an d a9):=⟨b.c,b.a.K,by show L (h.f++_)=L (h.u++_);rw[a6,a6,b.b];rfl,b.e,b.ld,b.f,λp a=>(et.mp a).elim (b.d.1 p) λa=>by rw[cz.mp a],b.d.2.1,λv a=>(et.mp a).elim (b.d.2.2 v) λa=>by rw[cz.mp a];rfl⟩
theorem dI.an:dI h (h.an d a9):=⟨aa,g2 _,gl _,⟨_,aa⟩,gl _,⟨_,aa⟩⟩
def b4.r (S:b4 q V){b:ac}{d:E}(h:bM bK (al q) (V f) b d c w):V (f+1) b d c w:=S.e (λa a a a h=>h) h
theorem kP (S:b4 q V){c:j}(y:0<c)(e:hI h.a h.r)(z:∀(d:j) r a,d<c->hI r a->w (.e d) (D (h.D r a))):V (f+1) 1235 [.c 18,.e c] (D h) w:=by
 refine S.r (Wq.mpr ?_);have s:=e.o;have l:(0:m)<L h.a:=KS.mpr s;refine bu (nG (KT e.gK (mc l))) λk t=>?_;have n:k<L h.a:=nB.mp (t▸yc h.r l);refine dU (e.X _ (KA n)) λi A g u=>?_;rw[t];refine fh (sR _▸cL (u6 l)) ?_;rw[show dD h.a (k:m)=O (.e i)from(eM n).trans (cp O A)];refine fh (f0 (s4 (q9 g (ow _)) (jh u ⋯))) (fh ((fu _ _).mpr ⟨dz (ow k),dz (nB.mpr n)⟩) ?_);have o:(0:m)<c:=KS.mpr y;refine fh (sR _▸cL (u6 o)) (bu (nG (KT (b:=c) g (mc o))) λd B=>?_);have x:=yc i o;rw[B]at x⊢;refine z d _ _ (nB.mp x) ⟨by rw[J2];exact s,λv p=>?_,q9 e.gK ⋯⟩;rcases List.mem_or_eq_of_mem_set p with p|rfl
 ·exact e.X v p
 ·exact⟨_,aa,Int.fdiv_nonneg g ⋯,jh (Int.fdiv_le_self 7 g) u⟩
def pn (S:b4 q V){k:m}(a:L h.c<900000)(b:w (cW k (1000+L h.c)) (D (h.K k))):V (f+1) 1242 [.c 18,.e k] (D h) w:=by refine S.r (Wr.mpr ?_);rw[Ww,Wx];exact fM (aU a ⋯) b
def Aq (S:b4 q V){v:x}(a:L h.c<900000)(b:w (.r [.e 4,cW 1 (1000+L h.c),v,.C]) (D (h.K 1))):V (f+2) 1249 [.c 18,v] (D h) w:=S.r (Ws.mpr (pn S a b))
theorem Wz (h:w .C (c++[nm d o B a9])):bM bK (al q) A 381 [.c (L c),.e d,.f a9,.e o,.e B,.e 1] (c++[.a 384 []]) w:=by
 conv=>whnf
 rw[pl]
 conv=>whnf
 rw[qG,pl]
 conv=>whnf
 rw[qG,pl]
 conv=>whnf
 rw[qG,pl]
 conv=>whnf
 rw[qG,pl]
 conv=>whnf
 rw[qG,pl]
 conv=>whnf
 rw[qG,pl]
 conv=>whnf
 rw[qG];exact h
theorem ua (S:b4 q V){k a:m}{b:aH}(g:L h.f=L h.d)(c:L h.d<900000)(d:w (.e (L h.d+1)) (D (h.s k a b))):V (f+3) 444 [.c 63,.e 1,.f b,.e k,.e a] (D h) w:=by
 refine S.r (Wt.mpr (S.r (S.r (Wz (fM (show L (x.C::h.d.map hV)+1<=de from ?_) ?_)))))
 ·rw[hM,cj];exact aU (vg c 1) ⋯
 refine fM (show L h.f+1<=de from g▸aU c ⋯) ?_;have e:D (h.s k a b)=((D h++[nm (L (h.d.map hV)+1) k a b]).set 65 (.y ((.C::h.d.map hV)++[.c (L (D h))]))).set 73 (.y (h.f++[.e (L (h.d.map hV)+1)])):=by rw[cj];delta D;rw[eu];rfl
 rw[e,cj]at d;rw[cj];exact d
def aW.i (x:aW):Nat:=x.rec 1 (λa a=>max) (λa=>1) (λa a=>1) (λa a=>1) (λa a=>(·+3)) (λa a a a a=>(·+3)) λa a a=>max
def gK (l:m):Nat:=l.toNat
abbrev po:=jX->kq->j->j->j
structure gN (h:j)(c:po)(d:bm)(s t:aq)(x:aW):Prop where
 A:dH t
 u:dI s t
 y:∃a,t.c=s.c++a/\x.y.Perm (i8 (1000+L s.c) a)
 K:x.K t.W t.u d
 e:∀p b,kq.aL b p->x.e p<=c p b (gK s.left) (gK t.left)
 i:x.i<=h
 ns:x.al
def WP (d e f:po):Prop:=∀p t,kq.aL t p->∀a b c,a<=5->b<=a->c<=b->d p t a b+e p t b c<=f p t a c
def lY (h:d<=o):gK d<=gK o:=Int.toNat_le_toNat h
def wO (b:dH h):gK h.left<=5:=lY b.ld
variable{lp ub Hg:po}{dO:n H}{tM:H}{ps:kq}{pt:jX}{ku:be->bI}
theorem gN.C (b:dH h)(m:WP lp ub Hg)(d:gN f lp bs h am aB)(c:gN f ub bs am cN gb):gN f Hg bs h cN (.C aB gb):=by refine aL d.y λa k n=>aL c.y λo q l=>bu c.u.W λg r=>bu c.u.u λv s=>⟨c.A,d.u.y c.u,⟨a++o,by rw[q,k,bU],?_⟩,⟨r▸s▸aW.aL d.K,c.K⟩,λp e i=>aU (vh (d.e p e i) (c.e p e i)) (m p e i _ _ _ (wO b) (lY d.u.left) (lY c.u.left)),pT.mpr ⟨d.i,c.i⟩,d.ns,c.ns⟩;rw[k,a6,m2,<-mb]at l;rw[t'];exact n.append l
theorem gN.b (b:dH h)(P:gN f lp bs h am aB)(e:f<=z)(g:∀p am,kq.aL am p->∀a b,a<=5->b<=a->lp p am a b<=ub p am a b):gN z ub bs h am aB:=
 ⟨P.A,P.u,P.y,P.K,λp c d=>aU (P.e p c d) (g p c d _ _ (wO b) (lY P.u.left)),aU P.i e,P.ns⟩
def aq.ep (s:aq)(i:j)(o:aX):aq:=s.X i o
theorem dH.X (b:dH h) (e:h.l[f]?=O (.y k)):dH (h.X f aZ):=⟨b.c,b.a.X e,b.b,b.e,b.ld,b.f,b.d⟩
def qI (g:dI (h.i aZ) am):am.l[L h.l]?=O aZ:=by refine bu g.l λa b=>?_;rw[b];exact(ek (by show _<L (h.l++[aZ]);rw[a6];exact hi _)).trans (iC ..)
theorem gN.X (P:gN f lp bs h am aB)(G:dI (h.i (.y k)) am):gN f lp bs h (am.X (L h.l) aZ) aB:=by refine⟨P.A.X (qI G),⟨P.u.e,P.u.left,P.u.c,P.u.u,P.u.W,bu G.l λa b=>⟨aZ::a,(?_:am.l.set (L h.l) aZ=_)⟩⟩,P.y,P.K,P.e,P.i,P.ns⟩;rw[b,show(h.i (.y k)).l=h.l++[.y k]from aa,bU,nH _ _ (br _),oJ];rfl
def gN.l (g:dI h am)(a:am.c=h.c)(b:am.left=h.left)(P:gN f lp bs am cN aB):gN f lp bs h cN aB:=
 ⟨P.A,g.y P.u,a▸P.y,P.K,b▸P.e,P.i,P.ns⟩
noncomputable def jY (m:j):Nat:=m.rec 2 λa i=>9+8*i
noncomputable def aq.aN (s:aq):Nat:=L s.c+L s.u
def gu (s:aq)(c:j):Prop:=L s.c+L s.u+c<=800000
noncomputable def lZ (a:bm):Int:=match a with|true=>2|false=>1
def Hh (b:j->aQ)(m:j):Prop:=∀(d:j)(a:bm)(s:aq)(Q:bg)(c:j),d+m=3->dH s->gu s (jY m+c)->
 (∀t x v,x.u=[v]->gu t c->gN (6*m+1) (λe t=>t.y d) a s t x->Q v (D t))->b (3*m+6) 1261 [.c 18,.e d,.e (lZ a)] (D s) Q
def r' (b:j->aQ)(m:j):Prop:=∀(d:j)(a:bm)(s:aq)(Q:bg)(c:j),d+m=3->dH s->gu s (2*jY m+c)->
 (∀t x,L x.u<=2->gu t c->gN (6*m+1) (λe t=>t.a d) a s t x->Q (.r x.u) (D t))->b (3*m+7) 1254 [.c 18,.e d,.e (lZ a)] (D s) Q
def wP (l:j->aQ)(h:j):Prop:=∀(d:j)(e:m)(s:aq)(Q:bg)(c:j),d+h=2->(e=0\/e=1\/e=2)->dH s->gu s (8+6*jY h+c)->
 (∀t k f i g x,gu t c->gN (6*h+4) (λp t a b=>p.a+t.l (d+1) a b) (an (e=2)) s t (.c k f i g x)->Q (.r [.e 9,cW k f,.r x.u,.e i]) (D t))->l (3*h+8) 1275 [.c 18,.e d,.e e] (D s) Q
abbrev As (a:ac->Q E)(C:aQ)(w d l:x):x->Z->(be->bI)->Prop:=ni (ei (al a) C 11) (.w 1261 [.s 3,.s 1,.s 2]) (.s 0) [] [ab,O d,O l,O w]
def WS:bM bK (al q) A 1254 [p,U,aM] c w=A 1235 [p,.e 3] c λv c=>js [v] λa=>hn (As q A p U aM) ⟨a,ab⟩ (L c) a (c++[.y []]) λb=>a7 (nT b (.c (L c))) λaM=>w (.r aM) b:=()
def At:hn (As q A p U aM) ⟨k,ab⟩ f (cC::I) c dm=A 1261 [p,U,aM] c λy c=>f5 c f λm=>fa (L m+1) (hn (As q A p U aM) ⟨k,ab⟩ f I (c.set f (.y (m++[y]))) dm):=()
def qJ (h:f<3):f=0\/f=1\/f=2:=(Cv.mp h).elim (λh=>(Cv.mp h).elim (λh=>.inl (Nat.lt_one_iff.mp h)) λe=>.inr (.inl e)) λe=>ey e
def Hi (h:f<4):f=0\/f=1\/f=2\/f=3:=
 (Cv.mp h).elim (λh=>(qJ h).imp_right λh=>h.imp_right .inl) λe=>mj e
def n8 (e:h.l[f]?=O aZ):(D h)[f+75]?=O aZ:=e
def wQ (e:h.l[f]?=O (.y k)):nT (D h) (.c (f+75))=O k:=by refine(?_:((D h)[f+75]?.bind λo=>o.D ab (l:=O))=_);rw[n8 e];rfl
def ajb:(D h).set (f+75) aZ=D (h.X f aZ):=aa
def kr (e:h.l[f]?=O aZ):(h.X f df).l[f]?=O df:=by rw[J1 (cs.mp e).1]
def gu.b (a:gu h f)(k:z<=f):gu h z:=aU (iE k _) a
def wR (a:m)(n:j):L (fT a n)=n:=by
 induction n generalizing a with
 |zero=>rfl
 |succ n b=>exact cp (·+1) (b _)
def e5 (h:f<=10^12){K:E->Prop}(q:K (fT 0 f)):js [.e f] K:=fh (f0 h) q
def Au (h:1+f<=10^12){F:E->Prop}(q:F (fT 0 (1+f))):cR (.e f) λi=>js [.e (1+i)] F:=by have:=e5 h q;rw[m2]at this;exact this
theorem Av (S:b4 q V){m:j}(N:Hh V m):r' V m:=by
 intro d r F w c H b f h;refine S.r (WS.mpr (kP S (c:=3) ⋯ b.c λk A a X o=>?_));have B:dH (F.D A a):=b.D o;have h:∀t x,L x.u<=2->gu t c->gN (6*m+1) (λI t=>t.a d) r (F.D A a) t x->w (.r x.u) (D t):= λt x C f P=>h t x C f (P.l (dI.D (k:=A) (d:=a)) aa aa);have f:gu (F.D A a) (2*jY m+c):=f;refine e5 (aU (hy X) ⋯) ?_;clear b o;generalize F.D A a=s at*;have Y:d<=3:=H▸cZ d m;have M:∀(t:aq)(x:aW),L x.u<=2->gu t c->gN (6*m+1) (λI t=>t.a d) r s t x->t.l[L s.l]?=O (.y x.u)->a7 (nT (D t) (.c (L (D s)))) λl=>w (.r l) (D t):= λt x C f P e=>by rw[show L (D s)=L s.l+75 from aa,wQ e];exact h t x C f P
 have Q:∀(t:aq)(l:E)(K:E->Prop),dI (s.i (.y l)) t->L l<=1->K l->f5 (D t) (L (D s)) λm=>fa (L m+1) (K m):= λt l K g C k=>
  ki (n8 (qI g)) (fM (aU (gy C) ⋯) k)
 rcases qJ X with rfl|rfl|rfl
 ·exact M (s.i (.y [])) .l (fK _) (f.b (ev _ _)) ⟨B.i,.i,⟨[],(ca _).symm,.refl _⟩,bY,λI I I=>fK _,KU (vb _),bY⟩ (iC ..)
 ·exact(At (cC:=.e 0)).mpr (N d r (s.i (.y [])) _ (jY m+c) H B.i (f.b (jl (.le (.b .a (.b .a .e)) (.b (.f 2 .a) .e)))) λt x v J R P=>Q t [] _ P.u (fK _) (M (t.X (L s.l) (.y ([]++[v]))) x (J▸fJ 1) (gu.b (h:=t.X _ _) R (ev _ _)) (((P.l .i aa aa).b B (br _) λp t o x y T U=>o.e d x y Y T U).X P.u) (J▸kr (qI P.u))))
 ·refine(At (cC:=.e 0)).mpr (N d r (s.i (.y [])) _ (jY m+c) H B.i (f.b (jl (.le (.b .a (.b .a .e)) (.b (.f 2 .a) .e)))) λt x v J R P=>Q t [] _ P.u (fK _) ?_);have i:=(P.l .i aa aa).X (aZ:=.y ([]++[v])) P.u;refine(At (cC:=.e 1)).mpr (N d r (t.X (L s.l) (.y ([]++[v]))) _ c H i.A R λu y W Z CS n=>?_);have G:dI (s.i (.y [v])) u:=by refine⟨(i.u.y n.u).e,(i.u.y n.u).left,(i.u.y n.u).c,(i.u.y n.u).u,(i.u.y n.u).W,n7 (bu P.u.l λz OL=>⟨z,(?_:t.l.set (L s.l) _=(s.l++[.y [v]])++z)⟩) n.u.l⟩;rw[OL,show(s.i (.y [])).l=s.l++[.y []]from aa,bU,nH _ _ (br _),oJ,bU];rfl
  refine Q u [v] _ G (br _) ?_;have e:(aW.C x y).u=[v]++[W]:=by show x.u++y.u=_;rw[J,Z]
  exact M (u.X (L s.l) (.y ([v]++[W]))) (.C x y) (e▸br 2) CS ((i.C B (λp t o x y z T U OL=>o.f d x y z Y T U OL) n).X (aZ:=.y ([v]++[W])) G) (e▸kr (qI G))
def ch (Q:bg):bZ:= λf a c=>match f with|.next=>Q .C c|.c v=>Q v c
noncomputable abbrev ir (d l v:x):aS:=[O (.c 18),O d,O l,O v]
abbrev ks (a:ac->Q E)(C:aQ)(k:j):aS->Z->bZ->Prop:=a' (o2 (al a) C) (zN.drop k)
def WT:bM bK (al q) A 1261 [.c 18,p,U] (D h) w=A 1235 [.c 18,.e 9] (D h.al) λv c=>ks q A 2 (ir p U v) c (ch w):=()
theorem WU:a' (o2 (al q) A) (Gs::dO) (ir (.e d) p (.e o)) (D h) G=(match an (h.left<0)with
 |true=>a' (o2 (al q) A) dO (ir (.e d) p (.e 2)) (D h) G
 |false=>match an (2<d)with
  |false=>a' (o2 (al q) A) dO (ir (.e d) p (.e o)) (D h) G
  |true=>match an (o<2)with
   |true=>a' (o2 (al q) A) dO (ir (.e d) p (.e 2)) (D h) G
   |false=>a' (o2 (al q) A) dO (ir (.e d) p (.e o)) (D h) G):=()
theorem WV (c:p=.e z)(a:0<=h.left->(z<=2\/2<=f)->ks q A 3 (ir p U (.e f)) (D h) G)(k:ks q A 3 (ir p U (.e 2)) (D h) G):ks q A 2 (ir p U (.e f)) (D h) G:=by
 subst c;refine(WU (dO:=zN.drop 3)).mpr ?_;cases d:an (h.left<0)with
 |true=>exact k
 |false=>
  have b:0<=h.left:=lz.mp (iF d);cases e:an ((2:m)<z)with
  |false=>exact a b (.inl (ov.mp (lz.mp (iF e))))
  |true=>
   cases g:an ((f:m)<2)with
   |true=>exact k
   |false=>exact a b (.inr (ov.mp (lz.mp (iF g))))
abbrev wS (b:ac->Q E)(C:aQ)(H:Z)(c:bg):Prop:=C 1235 [.c 18,.e 3] H λv H=>ed (al b) (.r [.e 7,.e 9,.e 13]) v H λk=>C 1242 [.c 18,k] H λa H=>c (.r [.e 1,a]) H
def WW:ks q A 3 (ir p U (.e 0)) c (ch w)=A 1275 [.c 18,p,U] c w:=()
theorem wT:ks q A 3 (ir (.e d) p (.e 1)) c (ch w)=A 1242 [.c 18,.e 1] c λa c=>A 1275 [.c 18,.e d,.e 2] c λb c=>A 1254 [.c 18,.e (d+1),.e 2] c λf c=>tf f λe=>fa (1+L e) (w (.r [.e 5,a,.r [.e 3,.r (b::e),.e 0]]) c):=()
def Hj:ks q A 3 (ir p U (.e 2)) c (ch w)=wS q A c w:=()
def WX:ks q A 3 (ir p U (.e 3)) c (ch w)=A 1249 [.c 18,.r [.e 10]] c w:=()
def WY:ks q A 3 (ir p U (.e 4)) c (ch w)=w (.r [.e 10]) c:=()
def WZ:ks q A 3 (ir p (.e 2) (.e 5)) c (ch w)=A 1249 [.c 18,.r [.e 11]] c w:=()
def W0:ks q A 3 (ir p (.e 1) (.e 5)) c (ch w)=wS q A c w:=()
def W1:ks q A 3 (ir p U (.e 6)) c (ch w)=A 1242 [.c 18,.e 7] c λa c=>A 1249 [.c 18,.r [.e 12,a]] c w:=()
def W2:ks q A 3 (ir p U (.e 7)) c (ch w)=A 1242 [.c 18,.e 7] c λa c=>w (.r [.e 12,a]) c:=()
def W3:ks q A 3 (ir p U (.e 8)) c (ch w)=wS q A c w:=()
theorem W4 (a:kI 0)(b:kI 1)(c:kI 2)(d:kI 3)(e:kI 4)(f:kI 5)(g:kI 6)(i:kI 7)(k:kI 8)(w:j)(h:w<9):kI w:=
 (ro.mpr ⟨a,ro.mpr ⟨b,ro.mpr ⟨c,ro.mpr ⟨d,ro.mpr ⟨e,ro.mpr ⟨f,ro.mpr ⟨g,ro.mpr ⟨i,List.forall_mem_singleton.mpr k⟩⟩⟩⟩⟩⟩⟩⟩:∀w∈jI 9,kI w) w (Ca.mpr h)
def Aw (m:j):2<=jY m:=by induction m using dx with|zero=>exact br _|succ m=>exact aU ⋯ (cZ 9 _)
noncomputable def aq.ab (s:aq)(a:bk):aq:={s with c:=s.c++a}
theorem W5 (g:z<=3)(b:dH h)(n:hI k d)(a:(∃c e,aB=.o c e)\/0<=h.left-1/\∀p,aB.e p=p.b)(o:aB.y.Perm (i8 (1000+L h.c) au))(r:aB.K h.W h.u bs)(s:aB.i=1)(u:aB.al):
 gN (6*f+1) (λi t=>t.y z) bs h ((h.al.D k d).ab au) aB:=by
 refine⟨⟨n,b.a,b.b,λp i=>B0 (b.e p i) (by show _<=1000+(L (h.c++au):m);rw[a6];exact jl (.a (.b (.y 1000) (.d .a)) (.b (.y 1000) (.d (.b .a .e))))),b.al.ld,aU b.f (by show _<=L (h.c++au);rw[a6];exact cZ _ _),b.d⟩,⟨aa,dI.al.left,⟨_,aa⟩,gl _,gl _,gl _⟩,⟨_,aa,o⟩,r,λp t i=>((?_:_<=t.y z (gK h.left) (gK (h.left-1)))),by rw[s];exact ev 1 _,u⟩;have v:=b.ld;by_cases q:0<=h.left-1
 ·have l:=i.b z (gK (h.left-1)) g (CT v);rw[show gK h.left=gK (h.left-1)+1 by unfold gK;exact kB (g5 [_,_] [_] (.le .a (.b .e .r)) (.Eq (.d .a) .a) (.Eq (.d .e) (.c .a .r)) [1,1,-1] (lB (hO (.a .K .a) (.a .K (.c .a .r)) q)) (lB (q))) (g5 [_,_] [_] (.le (.b .a .r) .e) (.Eq (.d .e) .a) (.Eq (.d .a) (.c .a .r)) [1,-1,1] (lB (hO (.a .K .a) (.a .K (.c .a .r)) q)) (lB (q)))];rcases a with⟨c,e,rfl⟩|⟨_,a⟩
  ·exact l.2
  ·rw[a];exact l.1
 ·rw[show gK h.left=0 from(CU q).1,show gK (h.left-1)=0 from(CU q).2];rcases a with⟨c,e,rfl⟩|⟨a,_⟩
  ·exact i.a z g
  ·exact b6 a q
theorem gu.lt (a:gu h (jY f+z)):L h.c+2<900000:=by have:=Aw f;exact gp [_,_,_,_] [] (.lt (.b .a .W) (.y 900000)) (.le (.b (.b .a .e) (.b .l .s)) (.y 800000)) a
theorem Hk (a:0<=h.left-1):gK h.left=gK (h.left-1)+1:=by unfold gK;exact kB (g5 [_,_] [_] (.le .a (.b .e .r)) (.Eq (.d .a) .a) (.Eq (.d .e) (.c .a .r)) [1,1,-1] (lB (hO (.a .K .a) (.a .K (.c .a .r)) a)) (lB (a))) (g5 [_,_] [_] (.le (.b .a .r) .e) (.Eq (.d .e) .a) (.Eq (.d .a) (.c .a .r)) [1,-1,1] (lB (hO (.a .K .a) (.a .K (.c .a .r)) a)) (lB (a)))
def Hl (b:dH h)(a:0<=h.left-1):gK (h.left-1)<5:=CT b.ld
theorem Ax (S:b4 q V){B:j}(X:B=0\/∃k,B=k+1/\wP V k/\r' V k):Hh V B:=by
 intro d u h w c F b C R;have T:=C.lt;refine S.r (WT.mpr (kP S (h:=h.al) (c:=9) ⋯ b.c λJ i a OL n=>?_));have G:∀{l:aW}{v:x} (i a K),l.u=[v]->hI i a->L K<=2->((∃k f,l=.o k f)\/0<=h.left-1/\∀p,l.e p=p.b)->l.y.Perm (i8 (1000+L h.c) K)->l.K h.W h.u u->l.i=1->l.al->w v (D ((h.al.D i a).ab K)):=
  λi a K e n r g o s t y=>R _ _ _ e (by unfold gu at C⊢;rw[a6];exact hB [_,_,_,_,_] [] (.le (.b (.b (.b .a .e) .l) .s) (.y 800000)) (.le (.b (.b .a .l) (.b .X .s)) (.y 800000)) (.le .e .W) (.le .W .X) C r (Aw B)) (W5 (F▸cZ d B) b n g o s t y)
 have M:∀i a,hI i a->wS q (V (3*B+5)) (D (h.al.D i a)) w:= λi a n=>
  kP S (h:=h.al.D i a) (c:=3) ⋯ n λe i a g n=>by refine bu (by rcases qJ g with rfl|rfl|rfl<;>exact⟨_,aa⟩:∃k:Int,dD [.e 7,.e 9,.e 13] e=some (.e k)) λk o=>(?_:a7 (dD _ _) _);rw[o];exact pn S (h:=h.al.D i a) (g4 (cZ _ 2) T) (G (l:=.o k _) i a [k] aa n (fJ 1) (.inl ⟨_,_,aa⟩) (.refl _) bY aa bY)
 refine WV aa (λr E=>?_) (Hj.mpr (M i a n));have H:L h.c<900000:=g4 (cZ _ 2) T;revert E;refine W4 (kI:= λJ=>(d<=2\/2<=J)->ks q (V (3*B+5)) 3 (ir (.e d) (.e (lZ u)) (.e J)) (D (h.al.D i a)) (ch w)) ?_ ?_ ?_ ?_ ?_ ?_ ?_ ?_ ?_ J OL<;>intro E
 ·refine dU (X.resolve_left λe=>E.elim (λo=>gE [_,_] [] .F (.le .a .W) (.l (.b .a .e) .L) (.l .e .K) [1,-1,1] o F e) λo=>gp [] [] .F (.le .W .K) o) ?_;rintro k rfl U Y;refine WW.mpr (U d _ (h.al.D i a) _ c (Cr F) (by induction u using fD<;>first|exact .inr (.inl aa)|exact ey aa:lZ u=0\/lZ u=1\/lZ u=2) (b.al.D n) (C.b (by show _<=9+8*jY k+c;exact jl (.le (.b (.b (.y 8) (.f 6 .a)) .e) (.b (.b (.y 9) (.f 8 .a)) .e)))) λt N f Q g l C P=>?_);rw[(by induction u using fD<;>rfl:decide (lZ u=2)=u)]at P;refine R t (.c N f Q g l) _ aa C ⟨P.A,dI.al.y (dI.D.y P.u),P.y,P.K,λp W I=>aU (P.e p W I) ?_,aU P.i (em (.le (.b (.f 6 .a) (.y 4)) (.b (.f 6 (.b .a .r)) .r))),bY⟩;rw[Hk r];exact I.c d _ _ (E.elim (λo=>mU o) λo=>lJ (.lt .a .L) (.le .W .K) [0,1] o) (Hl b r) (lY P.u.left)
 ·refine dU (X.resolve_left λe=>E.elim (λo=>gE [_,_] [] .F (.le .a .W) (.l (.b .a .e) .L) (.l .e .K) [1,-1,1] o F e) λo=>gp [] [] .F (.le .W .r) o) ?_;rintro k rfl U Y;have Z:=(b.al.D n).K (d:=1);refine wT.mpr (pn S (h:=h.al.D i a) H (U d 2 ((h.al.D i a).K 1) _ (2*jY k+c) (Cr F) (ey aa) Z ?_ λajl N f Q g l ajm P=>?_))
  ·refine(?_:L (h.c++[1])+L h.u+_<=800000);rw[a6,show L [(1:m)]=1 from aa];exact gp [_,_,_,_] [] (.le (.b (.b (.b .a .r) .e) (.b (.b (.y 8) (.f 6 .l)) (.b (.f 2 .l) .s))) (.y 800000)) (.le (.b (.b .a .e) (.b (.b (.y 9) (.f 8 .l)) .s)) (.y 800000)) C
  refine S.c4 (fJ _) (Y (d+1) af ajl _ c (k6 (.b (.b .a .r) .e) .L (.l (.b .a (.b .e .r)) .L) cc [1,-1] F) P.A ajm λajn y ajo ajp ajq=>fM (show 1+L y.u<=de from aU (iE ajo 1) ⋯) ?_);have A:=gN.C (f:=6*k+4) (Hg:= λp t a b=>p.a+t.b (d+1) a b) Z (λp t n l y z s CS ajr=>by rw[ka];exact iE (n.i (d+1) l y z (E.elim (λo=>ec (.le (.b .a .r) .L) (.le .a .W) o) λo=>lJ (.le (.b .a .r) .L) (.le .W .r) [0,1] o) s CS ajr) _) P (ajq.b P.A (em (.le (.b (.f 6 .a) .r) (.b (.f 6 .a) (.y 4)))) λs s s s s s s=>br _);refine aL A.y λz ajr CS=>R ajn (.h _ (.C (.c N f Q g l) y)) _ aa ajp ⟨A.A,dI.al.y (dI.D.y (dI.K.y A.u)),⟨1::z,ajr.trans (bU ..),?_⟩,⟨A.K,A.ns⟩,λp W I=>?_,by have:=A.i;show((aW.c N f Q g l).C y).i+3<=6*(k+1)+1;exact ck (.le (.b .a .L) (.b (.f 6 (.b .e .r)) .r)) (.le .a (.b (.f 6 .e) (.y 4))) this,bY⟩
  ·rw[(show L ((h.al.D i a).K 1).c=L h.c+1 from a6 ..),m2,<-mb]at CS;exact CS.cons _
  ·rw[Hk r];refine aU (iE (A.e p W I) _) ?_;rw[<-ka];exact I.h d _ _ (E.elim (λo=>mU o) λo=>lJ (.lt .a .L) (.le .W .r) [0,1] o) (Hl b r) (lY A.u.left)
 ·exact Hj.mpr (M i a n)
 ·exact WX.mpr (Aq S (h:=h.al.D i a) H (G (l:=.W _ .a) i a [1] aa n ⋯ (.inr ⟨r,λs=>aa⟩) (.refl _) bY aa bY))
 ·have:=G (l:=.p .a) i a [] aa n ⋯ (.inr ⟨r,λs=>aa⟩) (.refl _) bY aa bY;rw[show(h.al.D i a).ab []=h.al.D i a by unfold aq.ab;rw[ca]]at this;exact WY.mpr this
 ·induction u using fD with
  |true=>exact WZ.mpr (Aq S (h:=h.al.D i a) H (G (l:=.W _ .b) i a [1] aa n ⋯ (.inr ⟨r,λs=>aa⟩) (.refl _) aa aa bY))
  |false=>exact W0.mpr (M i a n)
 ·refine W1.mpr (pn S (h:=h.al.D i a) H (Aq S (h:=(h.al.D i a).K 7) (by show L (h.c++[7])<_;rw[a6];exact Nat.lt_of_succ_lt T) ?_));rw[(a6 ..),m2,<-mb];have:=G (l:=.W (1000+L h.c+1) (.c (1000+L h.c))) i a [7,1] aa n ⋯ (.inr ⟨r,λs=>aa⟩) (.swap _ _ _) bY aa bY;rw[show(h.al.D i a).ab [7,1]=((h.al.D i a).K 7).K 1 by unfold aq.ab aq.K;rw[bU];rfl]at this;exact this
 ·exact W2.mpr (pn S (h:=h.al.D i a) H (G (l:=.p (.c _)) i a [7] aa n ⋯ (.inr ⟨r,λs=>aa⟩) (.refl _) bY aa bY))
 ·exact W3.mpr (M i a n)
noncomputable def ajc (b c d:bm):Bool:=match b with|true=>c|false=>d
def bB (b:bm)(X Y:Prop):Prop:=match b with|true=>X|false=>Y
abbrev aw (a:ac->Q E)(C:aQ)(n:j):nW:=p8 (ei (al a) C 13) n
def iK (a:ac->Q E)(C:aQ)(b:j)(H:Z)(F:bg->Prop)(K:bI):Prop:=a7 (hD (al a) (.c b) .i H) λc=>F λaM H=>jq (al a) C c (.c b) [aM] H λd H=>K H
def qK (a:m)(F:x->Prop):Prop:=dE (rH a) (fa ((bG 99).length+(nC (sC a)).length) (F (.f (bG 99++nC (sC a)))))
def Ay (k t a:m)(F:x->Prop):Prop:=bB (an (k=13)) (qK a F) (bB (an (k=12)) (bB (an (t=1)) (qK a F) (F (.e a))) (F (.e a)))
noncomputable abbrev it (d b:x)(k a:m)(A B:j)(t:m)(c e f g h i:be):aS:=[O (.c 18),O d,O b,O (.e k),O (.e a),O (.c A),O (.c B),O (.e t),c,e,f,g,h,i]
abbrev Az (a:ac->Q E)(C:aQ):f4:= λaM L c w=>(ei (al a) C 13).c (.s 9) aM L c λL c=>a' (aw a C 7) [Gy,Gz,GA] L c w
abbrev AA (a:ac->Q E)(C:aQ):f4:= λaM L c w=>(ei (al a) C 13).c (.s 7) aM L c λL c=>a' (aw a C 8) [Gx,GB,tU,tV,r3,qv,nl] L c w
def hX (R:bZ)(N:aS->bI):bZ:= λf L c=>match f with|.next=>N L c|.c aM=>R (.c aM) L c
def W6:bM bK (al q) A 1275 [.c 18,p,U] c w=a' (aw q A 9) GD [O (.c 18),O p,O U,ab,ab,ab,ab,ab,ab,ab,ab,ab,ab,ab] c (ch w):=()
abbrev Hm (a:ac->Q E)(C:aQ)(R:bZ)(L:aS):bg:= λaM c=>(ei (al a) C 13).c (.r [.s 3,.s 4]) aM L c λL c=>R .next L c
def W7:aw q A 9 Gu [O (.c 18),O p,O U,ao,aJ,bc,bA,b',M,N,Y,ag,ah,ab] c G=A 1268 [.c 18] c (Hm q A G [O (.c 18),O p,O U,ao,aJ,bc,bA,b',M,N,Y,ag,ah,ab]):=()
def W8:aw q A 9 Gv [O (.c 18),O p,O U,O (.e d),O (.e o),ao,aJ,bc,M,N,Y,ag,ah,ab] c G=mk c (.y []) λbo c=>G .next [O (.c 18),O p,O U,O (.e d),O (.e o),O bo,aJ,bc,M,N,Y,ag,ah,ab] c:=()
def W9:aw q A 9 Gw [O (.c 18),O p,O U,O (.e d),O (.e o),ao,aJ,bc,M,N,Y,ag,ah,ab] c G=mk c (.y []) λbo c=>G .next [O (.c 18),O p,O U,O (.e d),O (.e o),ao,O bo,bc,M,N,Y,ag,ah,ab] c:=()
def bx {S:nW}:a' S (tM::dO) ax c G=S tM ax c (hX G λax c=>a' S dO ax c G):=aa
theorem W':aw q A 9 GC [O (.c 18),O p,O U,O (.e d),O (.e o),O (.c f),O (.c z),ao,M,N,Y,ag,ah,ab] c G=
 A 1235 [.c 18,.e 3] c λaM c=>cR aM λj=>js [.e (1+j)] λa=>ds (AA q A) ⟨a,ab⟩ a [O (.c 18),O p,O U,O (.e d),O (.e o),O (.c f),O (.c z),ao,M,N,Y,ag,ah,ab] c G:=()
theorem Xa:Az q A aM (it p U d o f z B (O (.c aK)) N Y ag ah ab) c G=iK q A aK c (λM=>Ay d B o λbo=>M (.r [.e 1,bo]) c) λc=>iK q A f c (λM=>M (.e o) c) λc=>
 A 1235 [.c 18,.e 3] c λa c=>ed (al q) (.r [.e 1,.e 2,.e 7]) a c λy=>cR y λj=>G .next (it p U d (o+j) f z B (O (.c aK)) (O aM) Y ag ah ab) c:=()
theorem Xb:AA q A (.e B) [O (.c 18),O p,O U,O (.e d),O (.e o),O (.c f),O (.c z),ao,M,N,Y,ag,ah,ab] c G=
 mk c (.y []) λe c=>A 1235 [.c 18,.e 3] c λaM c=>cR aM λj=>js [.e (1+j)] λa=>ds (Az q A) ⟨a,ab⟩ a (it p U d o f z B (O e) N Y ag ah ab) c
  (hX G λL c=>a' (aw q A 8) [tU,tV,r3,qv,nl] L c G):=()
def Xc:aw q A 8 tU (it p U d o f z B M N Y ag ah ab) c G=A 1235 [.c 18,.e 8] c λaM c=>G .next (it p U d o f z B M N (O aM) ag ah ab) c:=()
theorem Xd (e:ax=it p U d o f z B (O (.c aK)) N (O (.e bo)) ag ah ab):aw q A 8 tV ax c G=
 bB (an (bo=1)) (bB (an (B=0)) (iK q A aK c (λM=>M (.r [.e 2]) c) λc=>G .next ax c) (G .next ax c)) (G .next ax c):=by subst e;rfl'
noncomputable abbrev uc:b2:=[(19,.e 7),(20,.e 17)]
theorem Hn (e:ax=it p U d o f z B (O (.c aK)) N (O (.e bo)) ag ah ab):aw q A 8 r3 ax (D h) G=
 bB (an (bo=2)) (bB (an (B=0)) (bB (an (d=13)) (iK q A aK (D h) (λM=>M (.r [.e 4]) (D h)) λc=>G .next ax c) (bB (an (d=12)) (iK q A aK (D h) (λM=>M (.r [.e 4]) (D h)) λc=>G .next ax c)
  (bB (bH uc d).isSome (iK q A aK (D h) (λM=>M (.r [.e 4]) (D h)) λc=>G .next ax c) (G .next ax (D h))))) (G .next ax (D h))) (G .next ax (D h)):=by
 subst e;rfl'
def AB (a:ac->Q E)(C:aQ)(H:Z)(k x:m)(M:bg):Prop:=C 1235 [.c 18,.e 3] H λaM H=>ed (al a) (.r [.e 7,.e 9,.e k]) aM H λy=>C 1282 [.c 18,y,.e x] H M
theorem Ho (e:ax=it p U d o f z B (O (.c aK)) N (O (.e bo)) ag ah ab):aw q A 8 qv ax (D h) G=
 bB (an (4<bo)) (bB ([KV 7,.int 9,.int 12,.int 16].any λe=>pN e (.int d)) (iK q A aK (D h) (λM=>bB (an (d=12)) (AB q A (D h) 13 bo M) (AB q A (D h) 16 bo M)) λc=>G .next ax c) (G .next ax (D h))) (G .next ax (D h)):=by
 subst e;rfl'
theorem Xe (e:ax=it (.e J) (.e aF) d o f z B (O (.c aK)) N Y ag ah ab):aw q A 8 nl ax c G=
 iK q A z c (λM=>a7 (nT c (.c aK)) λl=>bB (an (0<aF)) (A 1254 [.c 18,.e (J+1),.e aF] c λy c=>M (.r [.r l,y]) c) (A 1254 [.c 18,.e (J+1),.e 1] c λy c=>M (.r [.r l,y]) c)) λc=>G .next ax c:=by
 subst e;rfl'
noncomputable abbrev eU (d b:x)(k a:m)(A B:j)(c e f g h i l:be):aS:=[O (.c 18),O d,O b,O (.e k),O (.e a),O (.c A),O (.c B),c,e,f,g,h,i,l]
theorem Xf (e:c[f]?=O (.y k)):aw q A 9 wz (eU p U d o f z ao M N Y ag ah aJ) c G=A 1235 [.c 18,.e (L k)] c λaM c=>ed (al q) (.c f) aM c λbo=>A 1235 [.c 18,.e 3] c λaM c=>ed (al q) (.r [.e 0,.e (-1),.e 1]) aM c λy=>
 rG bo y c λa c=>G .next (eU p U d o f z ao M N Y (O a) ah aJ) c:=by
 have:aw q A 9 wz (eU p U d o f z ao M N Y ag ah aJ) c G=a7 c[f]? λb=>i6 b λi=>A 1235 [.c 18,.e i] c λaM c=>ed (al q) (.c f) aM c λbo=>A 1235 [.c 18,.e 3] c λaM c=>ed (al q) (.r [.e 0,.e (-1),.e 1]) aM c λy=>
  rG bo y c λa c=>G .next (eU p U d o f z ao M N Y (O a) ah aJ) c:=()
 rw[this,e];rfl
def Xg:aw q A 9 wA (eU p U d o f z ao M N Y ag ah aJ) c G=A 1235 [.c 18,.e 4] c λaM c=>G .next (eU p U d o f z ao M N Y ag (O aM) aJ) c:=()
def n9 (a:ac->Q E)(C:aQ)(H:Z)(c g:m)(K:m->bI):Prop:=C 1235 [.c 18,.e c] H λaM H=>ed (al a) (.r [.e 0,.e 4294967296,.e (-4294967296)]) aM H λy=>cR y λj=>K (g+j) H
theorem Xh:aw q A 9 wB (eU p U d o f z ao M N Y (O (.e J)) ah aJ) (D h) G=
 bB (an (d=9)) (bB (an (d=10)) (n9 q A (D h) 2 J λJ c=>G .next (eU p U d o f z ao M N Y (O (.e J)) ah aJ) c) (n9 q A (D h) 3 J λJ c=>G .next (eU p U d o f z ao M N Y (O (.e J)) ah aJ) c))
 (bB (an (d=17)) (bB (an (d=10)) (n9 q A (D h) 2 J λJ c=>G .next (eU p U d o f z ao M N Y (O (.e J)) ah aJ) c) (n9 q A (D h) 3 J λJ c=>G .next (eU p U d o f z ao M N Y (O (.e J)) ah aJ) c))
 (bB (an (d=10)) (bB (an (d=10)) (n9 q A (D h) 2 J λJ c=>G .next (eU p U d o f z ao M N Y (O (.e J)) ah aJ) c) (n9 q A (D h) 3 J λJ c=>G .next (eU p U d o f z ao M N Y (O (.e J)) ah aJ) c))
 (G .next (eU p U d o f z ao M N Y (O (.e J)) ah aJ) (D h)))):=()
abbrev pp (c g:m):x:=.r [.f (bG 94),.e c,.e g]
theorem Xi:aw q A 9 r4 (eU p U d o f z ao M N Y (O (.e J)) (O (.e aF)) aJ) c G=
 bB (an (d=13)) (qK J λbo=>G .next (eU p U d o f z ao M N Y (O bo) (O (.e aF)) aJ) c)
 (bB (an (d=12)) (bB (an (2147483647<J)) (qK J λbo=>a7 (dD [pp 9 J,bo,pp 9 J,.C] aF) λbo=>G .next (eU p U d o f z ao M N Y (O bo) (O (.e aF)) aJ) c)
  (qK J λbo=>a7 (dD [pp 7 J,bo,pp 9 J,.C] aF) λbo=>G .next (eU p U d o f z ao M N Y (O bo) (O (.e aF)) aJ) c))
 (G .next (eU p U d o f z ao M N Y (O (.e J)) (O (.e aF)) aJ) c)):=()
theorem Xj:aw q A 9 pf (eU p U d o f z ao M N Y ag (O (.e aF)) aJ) (D h) G=
 bB (an (aF=3)) (bB (an (d=13)) (G .next (eU p U d o f z ao M N Y (O .C) (O (.e aF)) aJ) (D h)) (bB (bH uc d).isSome (G .next (eU p U d o f z ao M N Y (O .C) (O (.e aF)) aJ) (D h)) (G .next (eU p U d o f z ao M N Y ag (O (.e aF)) aJ) (D h))))
 (G .next (eU p U d o f z ao M N Y ag (O (.e aF)) aJ) (D h)):=()
def Xk:aw q A 9 zQ (eU p U d o f z ao M N Y ag ah aJ) c G=A 1242 [.c 18,.e d] c λaM c=>G .next (eU p U d o f z ao M N Y ag ah (O aM)) c:=()
theorem Xl:aw q A 9 zR (eU p U d o f z ao M N Y (O aM) ah (O (cW d B))) (D h) G=fa (L h.W+1) (G .next (eU p U d o f z ao M N Y (O aM) ah (O (cW d B))) ((D h).set 17 (.h (bF h.W B aM)))):=()
theorem Xm:aw q A 9 zS (eU p U d o f z ao M N Y ag (O (.e aF)) (O aM)) (D h) G=a7 (nT (D h) (.c z)) λk=>
 bB (an (aF=1)) (A 444 [.c 63,.e 1,.f (bG 100),.e d,.e 0] (D h) λbo c=>G (.c (.r [.e 9,aM,.r k,bo])) (eU p U d o f z ao M N Y ag (O (.e aF)) (O aM)) c) (G (.c (.r [.e 9,aM,.r k,.e 0])) (eU p U d o f z ao M N Y ag (O (.e aF)) (O aM)) (D h)):=()
def Xn:bM bK (al q) A 1268 [.c 18] (D h) w=A 1235 [.c 18,.e 13] (D h) λaM c=>a' (aw q A 9) [zO,zP] [O (.c 18),O aM,ab] c (ch w):=()
theorem Xo:a' (aw q A 9) [zO,zP] [O (.c 18),O (.e B),ab] (D h) (ch w)=a7 (dD [.e 7,.e 9,.e 8,.e 10,.e 4,.e 2,.e 16,.e 17,.e 18,.e 19,.e 20,.e 13,.e 12] B) λd=>
 a7 (dD [.e 0,.e 4294967294,.e 4294967200,.e 3,.e 150,.e 97,.e (-2),.e 4294967294,.e 1,.e (-2),.e 4294967294,.e 0,.e 2147483645] B) λo=>w (.r [d,o]) (D h):=()
def Xp:bM bK (al q) A 1282 [.c 18,.e d,.e 5] (D h) w=A 444 [.c 63,.e 1,.f (bG 99),.e d,.e 0] (D h) λaM c=>A 1242 [.c 18,.e 1] c λy c=>w (.r [.e 3,.e d,aM,y]) c:=()
def Xq:bM bK (al q) A 1282 [.c 18,.e d,.e 6] (D h) w=A 444 [.c 63,.e 1,.f (bG 99),.e d,.e 0] (D h) λaM c=>w (.r [.e 3,.e d,aM,.C]) c:=()
def Xr:bM bK (al q) A 1282 [.c 18,.e d,.e 7] (D h) w=A 1242 [.c 18,.e 1] (D h) λy c=>w (.r [.e 3,.e d,.e 0,y]) c:=()
def Xs (c:Char):c.toNat<0x110000:=by
 rcases c.valid with h|⟨_,h⟩
 ·exact kE h ⋯
 ·exact h
abbrev gM (a:m):Str:=bG 99++nC (sC a)
theorem AC (a:m):r8 (gM a):=by refine(?_:((bG 99).cps++(nC (sC a)).cps).all _=af);rw[aiC,Array.all_append,fu];refine⟨by decide+kernel,?_⟩;rw[<-Array.all_toList];refine mZ.mpr λx b=>?_;refine aL (f2.mp b) ?_;rintro c d rfl;exact dz (Xs c)
theorem wU (h:d.natAbs<10^18)(q:cS (.f (gM d))):qK d cS:=by
 refine fh (f0 (hy h)) (fM ?_ q);have b:(nC (sC d)).length=(sC d).length:=by rw[aiC];exact(cj ..).trans String.length_toList
 rw[b];exact aU (iE (int_text_length_le10 (a:=d) (k:=18) ⋯ h) _) (by decide+kernel)
noncomputable def qL:aO:=[(7,0),(9,4294967294),(8,4294967200),(10,3),(4,150),(2,97),(16,-2),(17,4294967294),(18,1),(19,-2),(20,4294967294),(13,0),(12,2147483645)]
theorem Xt (S:b4 q V)(d:hI h.a h.r)(g:∀k a c p,hW k-> -2<=a->a<=4294967294->hI c p->w (.r [.e k,.e a]) (D (h.D c p))):V (f+2) 1268 [.c 18] (D h) w:=by refine S.r (Xn.mpr (kP S (c:=13) ⋯ d λb c p i d=>(Xo (h:=h.D c p)).mpr ?_));obtain⟨z,e⟩:∃z,qL[b]?=O z:=⟨_,eM (show b<L qL from i)⟩;refine c9 ((by unfold hW;decide+kernel:∀z,z∈qL->hW z.1/\ -2<=z.2/\z.2<=4294967294) z (jK e)) λj l m=>?_;rw[(by show(qL.map _)[b]?=_;rw[h4,e];rfl:dD (qL.map λz=>.e z.1) b=some (.e z.1))];rw[(by show(qL.map _)[b]?=_;rw[h4,e];rfl:dD (qL.map λz=>.e z.2) b=some (.e z.2))];exact g _ _ _ _ j l m d
structure Hp (h t:aq)(l:n a3):Prop where
 A:dH t
 u:dI h t
 left:t.left=h.left
 W:t.W=h.W
 y:∃a,t.c=h.c++a/\er l=i8 (1000+L h.c) a
 aN:L t.c+L t.u<=L h.c+L h.u+2
theorem Xu (S:b4 q V){k x:m}(p:x=5\/x=6\/x=7)(b:dH h)(d:L h.c+L h.u+4<=800000)
 (a:∀t l e,Hp h t [.b k l e]->(l=0\/ln t.u l k/\l≠0)->w (a3.b k l e).u (D t)):V (f+4) 1282 [.c 18,.e k,.e x] (D h) w:=by
 have c:L h.d=L h.u:=b.a.1;have g:L h.f=L h.d:=b.b.trans c.symm;have i:L h.d<900000:=fE (.lt .a (.y 900000)) (.le (.b (.b .e .l) (.y 4)) (.y 800000)) (.l .a .l) d c;have j:L h.c<900000:=ck (.lt .a (.y 900000)) (.le (.b (.b .a .e) (.y 4)) (.y 800000)) d;have n:ln (h.u++[(k,0)]) (L h.d+1) k:=⟨L h.u,by rw[c],by simp⟩;have o:(L h.d:m)+1≠0:=em (.b (.Eq (.b (.d .a) .r) .K));refine S.r ?_;rcases p with rfl|rfl|rfl
 ·exact Xp.mpr (ua S g i (pn S (h:=h.an k (bG 99)) j (a _ _ (O _) ⟨b.an.K,dI.an.y .K,aa,aa,⟨[1],aa,aa⟩,by show L (h.c++[1])+L (h.u++[(k,0)])<=_;rw[a6,a6,show L [(1:m)]=1 from aa,show L [(k,(0:m))]=1 from aa];exact jl (.le (.b (.b .a .r) (.b .e .r)) (.b (.b .a .e) .W))⟩ (.inr ⟨n,o⟩))))
 ·exact Xq.mpr (ua S g i (a _ _ ab ⟨b.an,.an,aa,aa,⟨[],(ca _).symm,aa⟩,by show L h.c+L (h.u++[(k,0)])<=_;rw[a6,show L [(k,(0:m))]=1 from aa];exact jl (.le (.b .a (.b .e .r)) (.b (.b .a .e) .W))⟩ (.inr ⟨n,o⟩)))
 ·exact Xr.mpr (pn S j (a _ 0 (O _) ⟨b.K,.K,aa,aa,⟨[1],aa,aa⟩,by show L (h.c++[1])+L h.u<=_;rw[a6,show L [(1:m)]=1 from aa];exact jl (.le (.b (.b .a .r) .e) (.b (.b .a .e) .W))⟩ (.inl aa)))
theorem n' {F:bg->Prop} (e:h.l[f]?=O (.y k)) (a:F λv c=>f5 c (f+75) λk=>fa (L k+1) (dm (c.set (f+75) (.y (k++[v]))))):iK q A (f+75) (D h) F dm:=by
 have:hD (al q) (.c (f+75)) .i (D h)=O .i:=by refine(?_:(D h)[f+75]?.bind _=_);rw[n8 e];rfl
 delta iK;rw[this];exact a
def oa (e:h.l[f]?=O (.y k)) (a:L k<1000)(b:io k):f5 (D h) (f+75) λk=>fa (L k+1) (io k):=
 ki (n8 e) (fM (aU a ⋯) b)
def lq (a:f≠z):(h.X f aZ).l[z]?=h.l[z]?:=sB a
def pq (g:dI h am){b:j}{o:aX} (e:h.l[b]?=O o):am.l[b]?=O o:=by refine bu g.l λa c=>?_;rw[c,ek (cs.mp e).1,e]
def ob (k t a:m):a3:=match an (k=13)with
 |true=>.gM (gM a)
 |false=>match an (k=12)with
  |true=>(match an (t=1)with|true=>.gM (gM a)|false=>.c a)
  |false=>.c a
theorem Xv (h:B.natAbs<10^18)(q:∀a,(ob d o B).u=.r [.e 1,a]->cS a):Ay d o B cS:=by
 revert q;unfold ob Ay;cases an (d=13)with
 |true=>exactλq=>wU h (q _ aa)
 |false=>
  cases an (d=12)with
  |true=>cases an (o=1)with
   |true=>exactλq=>wU h (q _ aa)
   |false=>exactλq=>q _ aa
  |false=>exactλq=>q _ aa
theorem AD (k t a:m):ob k t a=.c a/\k≠13\/ob k t a=.gM (gM a)/\(k=13\/k=12):=by
 unfold ob;cases h:an (k=13)with
 |true=>exact .inr ⟨aa,.inl (dT h)⟩
 |false=>
  cases b:an (k=12)with
  |true=>cases an (t=1)with
   |true=>exact .inr ⟨aa,.inr (dT b)⟩
   |false=>exact .inl ⟨aa,iF h⟩
  |false=>exact .inl ⟨aa,iF h⟩
structure l0 (k a:m)(e:bk)(f:n a3)(g:aO):Prop where
 bz:(fc f).Sublist e
 c:e.Pairwise (·<·)
 fe:∀x,x∈e-> -2<=x/\x<a/\a-x<=7*(L e:m)
 b: -2<=a
 d:a<=4294967294+7*(L e:m)
 ok:∀l,l∈f->fP k 0 g l
theorem l0.e (h:l0 d o au c3 aj)(k:L au<=9)(c:1<=B)(f:B<=7):l0 d (o+B) (au++[o]) (c3++[ob d J o]) aj:=by
 have e:(L (au++[o]):m)=L au+1:=by rw[a6];rfl
 have g:=h.b;have j:=h.d;refine⟨?_,Cw.mpr ⟨h.c,List.pairwise_singleton _ _,λx a y b=>cz.mp b▸(h.fe x a).2.1⟩,λx a=>?_,by exact hA [] [_,_] (.a (.g .W) (.b .a .e)) (.a .r .e) (.a (.g .W) .a) c g,by rw[e];exact hA [_] [_,_] (.a (.b .a .e) (.b (.y 4294967294) (.f 7 (.b (.d .a) .r)))) (.a .e (.y 7)) (.a .a (.b (.y 4294967294) (.f 7 (.d .a)))) f j,λl b=>?_⟩
 ·rw[He];refine h.bz.append ?_;rcases AD d J o with⟨e,_⟩|⟨e,_⟩<;>rw[e]
  ·exact .refl _
  ·exact List.nil_sublist _
 ·rw[e];rcases et.mp a with a|a
  ·exact c9 (h.fe x a) λi p q=>k0 (i) (k0 (hA [] [_,_,_] (.Lt .a (.b .e .l)) (.a .r .l) (.Lt .a .e) c p) (hA [_] [_,_,_] (.a (.c (.b .a .e) .l) (.f 7 (.b (.d .a) .r))) (.a .e (.y 7)) (.a (.c .a .l) (.f 7 (.d .a))) f q))
  ·rw[cz.mp a];exact k0 (g) (k0 (k9 (.Lt .a (.b .a .e)) (.a .r .e) c) (gp [_] [_,_] (.a (.c (.b .a .e) .a) (.f 7 (.b (.d .a) .r))) (.a .e (.y 7)) f))
 ·rcases et.mp b with b|b
  ·exact h.ok l b
  ·rw[cz.mp b];rcases AD d J o with⟨e,i⟩|⟨e,i⟩<;>rw[e]
   ·exact⟨i,hO (.a (.g (.y 100)) .a) (.a (.g .W) .a) g,g5 [_] [_] (.a .a (.y 4294968000)) (.le .a (.y 9)) (.a .a (.b (.y 4294967294) (.f 7 (.d .a)))) [1,7,1] k j⟩
   ·exact⟨i,AC o⟩
theorem dI.X (g:dI h am)(a:L h.l<=f):dI h (am.X f aZ):=by refine⟨g.e,g.left,g.c,g.u,g.W,bu g.l λz b=>⟨z.set (f-L h.l) aZ,?_⟩⟩;show am.l.set f aZ=_;rw[b,nH _ _ a]
def sa:er (c3++ga)=er c3++er ga:=by
 induction c3 with
 |nil=>rfl
 |cons l c3 a=>show l.y++er (c3++ga)=(l.y++er c3)++er ga;rw[a,bU]
structure ud (t h:aq)(i b e:j)(v:E)(k a:m)(s:bk)(w r:n a3)(q:aq):Prop where
 A:dH q
 g:dI t q
 c:q.c=h.c
 u:q.u=h.u
 W:q.W=h.W
 left:q.left=h.left
 o:q.l[i]?=O (.y (s.map .e))
 l:q.l[b]?=O (.y v)
 d:q.l[e]?=O (.y (r.map a3.u))
 f:l0 k a s (w++r) h.u
 p:er r=[]
def Xw (h:f<3):∃a:m,dD [.e 1,.e 2,.e 7] f=O (.e a)/\1<=a/\a<=7:=by rcases qJ h with rfl|rfl|rfl<;>exact⟨_,aa,⋯,⋯⟩
def Xx (h s:aq)(i b e M N:j)(l:E)(k t:m)(o:n a3)(d p:x)(B:j)(q r u:be)(v:E)(w:aS)(H:Z):Prop:=∀P:aS->bI,(∀(f:aq)(a:m)(g:bk)(c:n a3)(y:be),L g=N+L c->L c+L v=M->ud h s i b e l k a g o c f->
    P (it d p k a (i+75) B t (O (.c (e+75))) y q r u ab) (D f))->P w H
theorem Xy (S:b4 q V){z s:aq}{i b e M N:j}{H:E}{k t:m}{I:n a3}{d Q:x}{B:j}{T U W:be}{A:E}{R:bZ}(CS:L z.l<=i)(OL:L z.l<=e)(ajl:i≠b)(Y:i≠e)(ajm:b≠e)(X:N+M<=9)(ajn:M<=3)
 (ajo:∀g a l o u,L l=N+M->L o=M->ud z s i b e H k a l I o g->R .next (it d Q k a (i+75) B t (O (.c (e+75))) u T U W ab) (D g))
 {g:aq}{a:m}{l:bk}{u:be}(ajp:L A=M)(ajq:L l=N)(h:ud z s i b e H k a l I [] g):
 ds (Az q (V (f+1))) ⟨A,ab⟩ A (it d Q k a (i+75) B t (O (.c (e+75))) u T U W ab) (D g) R:=by
 refine Am (fG:=⟨A,ab⟩) (Xx z s i b e M N H k t I d Q B T U W) (λv r ajr c K J ajs p=>?_) (λajr c J=>?_) (l:=A) λP K=>K g a l [] u ajq ((m1 _).trans ajp) h
 ·apply J;intro g a l o u w y h;have C:L o+1+L r=M:=by rw[<-y,hM];exact m7 (.b (.b .a .r) .e) (.b .a (.b .e .r))
  refine Xa.mpr (n' h.d (Xv ?_ λF ajt=>oa h.d ?_ ?_))
  ·exact g4 (s4 (f:=10000000000) (hO (.a .K (.b .a (.d (.y 10000000000)))) (.a (.g .W) .a) h.f.b) (lI [_,_,_,_,_] [_] (.a .a (.d (.y 10000000000))) (.le (.b .a .e) (.y 9)) (.l .l (.b .a .s)) (.l (.b (.b .s .r) .X) .e) (.a .a (.b (.y 4294967294) (.f 7 (.d .l)))) [1,7,7,7,1] X w C h.f.d)) ⋯
  ·rw[cj];exact fE (.lt .a (.y 1000)) (.le .e .L) (.l (.b (.b .a .r) .l) .e) ajn C
  have G:(g.X e (.y (o.map a3.u++[.r [.e 1,F]]))).l[i]?=_:=(lq (sU Y)).trans h.o;refine n' (h:=g.X e (.y (o.map a3.u++[.r [.e 1,F]]))) G ?_;refine oa G (by rw[cj];exact hB [_,_,_,_,_] [] (.lt .a (.y 1000)) (.le (.b .e .l) (.y 9)) (.l .a (.b .e .s)) (.l (.b (.b .s .r) .X) .l) X w C) ?_;have Z:=(h.A.X h.d (aZ:=.y (o.map a3.u++[.r [.e 1,F]]))).X G (aZ:=.y (l.map .e++[.e a]));refine kP S (h:=(g.X e (.y (o.map a3.u++[.r [.e 1,F]]))).X i (.y (l.map .e++[.e a]))) (c:=3) ⋯ Z.c λp p p aju ajv=>dU (Xw aju) λajw ajx ajy ajz=>?_;show a7 (dD _ _) _;rw[ajx];refine ajs _ _ λP K=>K _ (a+ajw) (l++[a]) (o++[ob k t a]) (O v) ?_ ?_ ⟨Z.D ajv,((h.g.X OL).X CS).y .D,h.c,h.u,h.W,h.left,?_,((lq (h:=g.X e _) ajl).trans (lq (sU ajm))).trans h.l,?_,?_,?_⟩
  ·rw[a6,a6,w];rfl
  ·rw[a6];exact C
  ·rw[eu];exact kr G
  ·rw[eu];refine((lq (h:=g.X e _) Y).trans (kr h.d)).trans ?_;rw[show List.map a3.u [ob k t a]=[(ob k t a).u]from aa,ajt]
  ·rw[<-bU];exact h.f.e (j8 (hB [_,_,_,_,_] [] (.le .a (.y 8)) (.le (.b .e .l) (.y 9)) (.l .a (.b .e .s)) (.l (.b (.b .s .r) .X) .l) X w C:L l<=8)) ajy ajz
  ·rw[sa,h.p];rcases AD k t a with⟨e,_⟩|⟨e,_⟩<;>rw[e]<;>rfl
 ·apply J;intro g a l o u w y h;have y:L o=M:=y;exact ajo g a l o u (y▸w) y h
def aW.ab (c:aW)(a:n a3)(x:aW):aW:=c.an (.d a x .l) (.d a x .l) λl b d i=>.d l b i
structure Xz (c:aW)(a:n a3)(x:aW):Prop where
 ep:(c.ab a x).L
 u:(c.ab a x).u=c.u++[.r [.r (a.map a3.u),.r x.u]]
 D:(c.ab a x).D=c.D++a
 X:(c.ab a x).X=c.X+1
 y:(c.ab a x).y=c.y++(er a++x.y)
 K:∀b u d,c.K b u d->x.K b u d/\x.al->(c.ab a x).K b u d
 e:∀p,(c.ab a x).e p=c.e p+x.e p
 i:∀h,c.i<=h->x.i<=h->1<=h->(c.ab a x).i<=h
theorem XA (d:n a3)(x:aW):∀c:aW,c.L->Xz c d x:=by
 intro c;induction c with
 |d f b r _ j=>
  intro h;have h:=j h;exact⟨h.ep,cp (_::·) h.u,by show f++(r.ab d x).D=(f++r.D)++d;rw[h.D,bU],cp (·+1) h.X,by show er f++(b.y++(r.ab d x).y)=(er f++(b.y++r.y))++(er d++x.y);rw[h.y];simp only[bU],
   λk m o e a=>⟨e.1,h.K k m o e.2 a⟩,λp=>by show b.e p+(r.ab d x).e p=b.e p+r.e p+x.e p;rw[h.e,ka],λi e a g=>pT.mpr ⟨(pT.mp e).1,h.i i (pT.mp e).2 a g⟩⟩
 |l=>intro b;exact⟨bY,aa,ca _,aa,by show _++(_++[])=_;rw[ca];rfl,λb b b b a=>⟨a,bY⟩,λp=>(Nat.add_zero _).trans (m1 _).symm,λi b a g=>pT.mpr ⟨a,g⟩⟩
 |C=>intro h;exact h.elim
 |p=>intro h;exact h.elim
 |o=>intro h;exact h.elim
 |W=>intro h;exact h.elim
 |h=>intro h;exact h.elim
 |c=>intro h;exact h.elim
structure kQ (q s:aq)(i b e:j)(r:E)(k a:m)(p:bk)(t h:n a3)(c:aq):Prop where
 A:dH c
 g:dI q c
 u:∃z,c.u=s.u++z
 W:c.W=s.W
 left:c.left=s.left
 y:∃z,c.c=s.c++z/\er h=i8 (1000+L s.c) z
 o:c.l[i]?=O (.y (p.map .e))
 l:c.l[b]?=O (.y r)
 d:c.l[e]?=O (.y (h.map a3.u))
 f:l0 k a p (t++h) c.u
def ud.r (a:ud h am f z aK k d o au c3 ga cN):kQ h am f z aK k d o au c3 ga cN:=
 ⟨a.A,a.g,⟨[],by rw[a.u,ca]⟩,a.W,a.left,⟨[],by rw[a.c,ca],a.p⟩,a.o,a.l,a.d,a.u.symm▸a.f⟩
theorem kQ.D (a:kQ h am f z aK k d o au c3 ga cN)(b:hI I B):kQ h am f z aK k d o au c3 ga (cN.D I B):=⟨a.A.D b,a.g.y .D,a.u,a.W,a.left,a.y,a.o,a.l,a.d,a.f⟩
theorem l0.C (h:l0 d o au c3 aj):l0 d o au c3 (aj++dt):=⟨h.bz,h.c,h.fe,h.b,h.d,λl a=>(h.ok l a).C⟩
def l0.X (h:l0 d o au c3 aj)(b:fc [cH]=[])(c:fP d 0 aj cH):l0 d o au (c3++[cH]) aj:=
 ⟨by rw[He,b,ca];exact h.bz,h.c,h.fe,h.b,h.d,λx a=>(et.mp a).elim (h.ok x) λa=>cz.mp a▸c⟩
theorem kQ.X (a:kQ h am f z aK k d o au c3 ga cN)(e:f≠aK)(g:z≠aK)(i:L h.l<=aK)(P:Hp cN wV [cH])(j:fc [cH]=[])(l:fP d 0 wV.u cH):
 kQ h am f z aK k d o au c3 (ga++[cH]) (wV.X aK (.y (ga.map a3.u++[cH.u]))):=by
 have b:=pq P.u a.d;refine aL a.y λm c n=>aL P.y λy p q=>bu P.u.u λx r=>⟨P.A.X b,(a.g.y P.u).X i,n7 a.u P.u.u,P.W.trans a.W,P.left.trans a.left,⟨m++y,by show wV.c=_;rw[p,c,bU],?_⟩,(lq (sU e)).trans (pq P.u a.o),(lq (sU g)).trans (pq P.u a.l),?_,?_⟩
 ·rw[sa,n,q,t',c,a6,m2,<-mb]
 ·rw[eu];exact kr b
 ·have:=a.f.C (dt:=x);rw[<-r]at this;rw[<-bU];exact this.X j l
section
variable{pc:aS->bI}
def bq (h:pc ax c):hX G pc .next ax c:=h
def fj (h:bs=af->aV)(a:bs=aN->dr):bB bs aV dr:=by induction bs using fD with|true=>exact h aa|false=>exact a aa
theorem XB (h:([KV 7,.int 9,.int 12,.int 16].any λbf=>pN bf (.int d))=af):d=7\/d=9\/d=12\/d=16:=by have h:((7:m)==d||((9:m)==d||((12:m)==d||((16:m)==d||false))))=true:=h;rw[ya,ya,ya,Bool.or_false]at h;exact h.imp (λh=>(k4 h).symm) λh=>h.imp (λh=>(k4 h).symm) λh=>h.imp (λh=>(k4 h).symm) λh=>(k4 h).symm
theorem XC (h:d=7\/d=9\/d=12\/d=16)(c:o=7\/o=9\/o=B)(e:B=13/\d=12\/B=16/\d≠12):(o=7\/o=9)/\(d=7\/d=9\/d=12\/d=16)\/o=16/\(d=7\/d=9\/d=16)\/o=13/\d=12:=by
 refine gQ c (λbf=>.inl ⟨.inl bf,h⟩) λbf=>gQ bf (λbf=>.inl ⟨.inr bf,h⟩) λbf=>?_
 ·rcases e with⟨a,b⟩|⟨a,b⟩
  ·exact ey ⟨bf.trans a,b⟩
  ·exact .inr (.inl ⟨bf.trans a,h.imp id λh=>h.imp id λh=>h.resolve_left b⟩)
def pr (b a:n a3):Prop:=L a<=L b+1/\L (er a)<=1
def pr.ew (h:er c3=[])(l:a3):pr c3 (c3++[l]):=by
 refine⟨he (a6 ..),?_⟩;rw[sa,h];induction l using iD with
 |b d a f=>induction f using gA<;>exact ea aa
 |_=>exact ea aa
set_option maxHeartbeats 4000000 in
theorem XD (S:b4 q V)(Z:z≠bf)(CS:aK≠bf)(OL:L h.l<=bf)(b:kQ h am z aK bf k d o au c3 ga cN)(ajo:L ga<=3)(ajl:er ga=[])(Q:L cN.c+L cN.u+4<=800000)
 (K:∀a g N,kQ h am z aK bf k d o au c3 g a->pr ga g->L a.c+L a.u<=L cN.c+L cN.u+2->a' (aw q (V (f+5)) 8) [nl] (it p U d o (z+75) el B (O (.c (bf+75))) M N Y ag ab) (D a) G):
 a' (aw q (V (f+5)) 8) [tU,tV,r3,qv,nl] (it p U d o (z+75) el B (O (.c (bf+75))) M N Y ag ab) (D cN) G:=by
 refine bx.mpr (Xc.mpr (kP S (c:=8) ⋯ b.A.c λx t u H R=>?_));have b:=b.D R;have Q:L (cN.D t u).c+L (cN.D t u).u+4<=800000:=Q;have K:∀a g N,kQ h am z aK bf k d o au c3 g a->pr ga g->L a.c+L a.u<=L (cN.D t u).c+L (cN.D t u).u+2->a' (aw q (V (f+5)) 8) [nl] (it p U d o (z+75) el B (O (.c (bf+75))) M N Y ag ab) (D a) G:=K;generalize cN.D t u=cN at*;have A:L (ga.map a3.u)<1000:=by rw[cj];exact g4 ajo ⋯
 have ajm:∀(l:a3)(r:bI),er [l]=[]->fc [l]=[]->fP d 0 cN.u l->(∀a,kQ h am z aK bf k d o au c3 (ga++[l]) a->a.c=cN.c->a.u=cN.u->r (D a))->iK q (V (f+5)) (bf+75) (D cN) (λT=>T l.u (D cN)) r:= λl r ajp ajq ajr ajs=>n' b.d (oa b.d A (ajs (cN.X bf (.y (ga.map a3.u++[l.u]))) (b.X Z CS OL ⟨b.A,⟨aa,g2 _,gl _,gl _,gl _,gl _⟩,aa,aa,⟨[],(ca _).symm,ajp⟩,cZ _ 2⟩ ajq ajr) aa aa));have I:=pr.ew ajl;have C:∀a g,¬(4:m)<(x:m)->kQ h am z aK bf k d o au c3 g a->pr ga g->a.c=cN.c->a.u=cN.u->a' (aw q (V (f+5)) 8) [qv,nl] (it p U d o (z+75) el B (O (.c (bf+75))) M (O (.e x)) Y ag ab) (D a) G:= λa g H b A i j=>
  bx.mpr ((Ho aa).mpr (fj (λe=>b6 (dT e) H) λn=>bq (K a g _ b A (by rw[i,j];exact cZ _ 2))))
 have ajn:∀a g,¬(x:m)=2->¬(4:m)<(x:m)->kQ h am z aK bf k d o au c3 g a->pr ga g->a.c=cN.c->a.u=cN.u->a' (aw q (V (f+5)) 8) [r3,qv,nl] (it p U d o (z+75) el B (O (.c (bf+75))) M (O (.e x)) Y ag ab) (D a) G:= λa g H ajt b A i j=>
  bx.mpr ((Hn aa).mpr (fj (λe=>b6 (dT e) H) λn=>bq (C a g ajt b A i j)))
 have J:pr ga ga:=⟨fJ _,by rw[ajl];exact fK _⟩;refine bq (bx.mpr ((Xd aa).mpr (fj (λe=>?_) λW=>?_)))
 ·have w:(x:m)=1:=dT e;have v:¬(x:m)=2:=lJ (.b (.Eq (.d .a) .W)) (.Eq (.d .a) .r) [-1,1] (dT e:);have s:¬(4:m)<(x:m):=ec (.b (.Lt (.y 4) (.d .a))) (.Eq (.d .a) .r) (dT e:);exact fj (λn=>ajm .a _ aa aa bY λa b i j=>bq (ajn a _ v s b (I _) i j)) λn=>bq (ajn cN _ v s b J aa aa)
 ·refine bq (bx.mpr ((Hn aa).mpr (fj (λe=>?_) λX=>?_)))
  ·have s:¬(4:m)<(x:m):=by have:(x:m)=2:=dT e;exact ec (.b (.Lt (.y 4) (.d .a))) (.Eq (.d .a) .W) (dT e:)
   have E:(d=12\/d=13\/d=19\/d=20)->∀r,(∀a,kQ h am z aK bf k d o au c3 (ga++[.d]) a->a.c=cN.c->a.u=cN.u->r (D a))->iK q (V (f+5)) (bf+75) (D cN) (λT=>T (.r [.e 4]) (D cN)) r:= λv r=>ajm .d r aa aa v;refine fj (λn=>fj (λe=>E (.inr (.inl (dT e))) _ λa b i j=>bq (C a _ s b (I _) i j)) λn=>fj (λe=>E (.inl (dT e)) _ λa b i j=>bq (C a _ s b (I _) i j)) λn=>fj (λe=>?_) λn=>bq (C cN _ s b J aa aa)) λn=>bq (C cN _ s b J aa aa)
   ·refine E (.inr (.inr ?_)) _ λa b i j=>bq (C a _ s b (I _) i j);by_cases W:(19:m)=d
    ·exact .inl W.symm
    ·by_cases X:(20:m)=d
     ·exact .inr X.symm
     ·rw[show bH uc d=ab from(ce W).trans (ce X)]at e;injection e
  ·refine bq (bx.mpr ((Ho aa).mpr (fj (λaju=>fj (λajv=>n' b.d ?_) λn=>bq (K cN _ _ b J (cZ _ 2))) λn=>bq (K cN _ _ b J (cZ _ 2)))));have E:∀F:m,(F=13/\d=12\/F=16/\d≠12)->AB q (V (f+5)) (D cN) F x λv c=>f5 c (bf+75) λl=>fa (L l+1) (hX G (λax c=>a' (aw q (V (f+5)) 8) [nl] ax c G) .next (it p U d o (z+75) el B (O (.c (bf+75))) M (O (.e x)) Y ag ab) (c.set (bf+75) (.y (l++[v])))):= λF ajw=>by
    refine kP S (c:=3) ⋯ b.A.c λw t u ajx R=>?_;have b:=b.D R;have:∃y:m,dD [.e 7,.e 9,.e F] w=O (.e y)/\(y=7\/y=9\/y=F):=by rcases qJ ajx with rfl|rfl|rfl<;>first|exact⟨_,aa,.inl aa⟩|exact⟨_,aa,.inr (.inl aa)⟩|exact⟨_,aa,ey aa⟩
    refine aL this λy ajy ajz=>(?_:a7 (dD _ _) _);rw[ajy];exact Xu S (Lq H (dT aju):(x:m)=5\/(x:m)=6\/(x:m)=7) b.A Q λajA l ajB P ajC=>oa (pq P.u b.d) A (bq (K (ajA.X bf (.y (ga.map a3.u++[(a3.b y l ajB).u]))) _ _ (b.X Z CS OL P aa ⟨XC (XB ajv) ajz ajw,ajC⟩) (I _) P.aN))
   exact fj (λe=>E 13 (.inl ⟨aa,dT e⟩)) λe=>E 16 (.inr ⟨aa,iF e⟩)
end
noncomputable def wW (t:kq)(n d x y:j):Nat:=match n with
 |0=>0
 |1=>t.a d x y
 |2=>t.r d x y
 |_=>t.l d x y
theorem XE (a:ps.aL pt){n d x y z:j}(g:n<3)(b:d<=3)(c:x<=5)(e:y<=x)(f:z<=y)(h:n=0->y=x):wW ps n d x y+ps.a d y z<=wW ps (n+1) d x z:=by
 match n,g with
 |0,_=>rw[h aa];exact he (m1 _)
 |1,_=>exact a.pm d x y z b c e f
 |2,_=>exact a.r9 d x y z b c e f
theorem XF (a:ps.aL pt){n d x z:j}(h:n<=3)(i:1<=n)(b:d<=3)(c:x<=5)(f:z<=x):wW ps n d x z<=ps.l d x z:=by
 have g:=a.r9 d x z z b c f (br _);refine(Hi (mU h)).elim (λe=>b6 i (by rw[e];exact va 0)) λe=>e.elim (λe=>?_) λe=>e.elim (λe=>?_) λe=>?_<;>rw[e]
 ·exact aU (aU (cZ _ _) (a.pm d x z z b c f (br _))) (aU (cZ _ _) g)
 ·exact aU (cZ _ _) g
 ·exact br _
structure sb (w:aq)(B d c:j)(C:bm)(k:m)(n:j)(a:m)(x:bk)(u:aW)(v:aq):Prop where
 A:dH v
 g:dI w v
 o:v.l[L w.l]?=O (.y (x.map .e))
 l:v.l[L w.l+1]?=O (.y u.u)
 y:∃z,v.c=w.c++z/\u.y.Perm (i8 (1000+L w.c) z)
 K:u.K v.W v.u C
 h:u.L
 X:u.X=n
 q:L u.u=n
 D:L u.D<=4*n/\L (er u.D)<=n
 b:L x<=3*n
 wT:n<=L x
 f:l0 k a x u.D v.u
 i:u.i<=6*B+1
 e:∀p t,kq.aL t p->u.e p<=wW t n (d+1) (gK w.left) (gK v.left)
 s:n=0->v.left=w.left
 r:gu v ((2+2*jY B)*(3-n)+c)
section
set_option maxHeartbeats 2000000 in
theorem XG (S:b4 q V)(ajq:r' V f)(C:z+f=2)(ajr:B=0/\bs=aN\/B=1/\bs=aN\/B=2/\bs=af)(ajs:dH h)(g:bf<3)(a:sb h f z aK bs d bf o au aB am)
 (K:∀E F ajt aju N Y ag,sb h f z aK bs d (bf+1) F ajt aju E->G .next (it (.e z) (.e B) d F (L h.l+75) (L h.l+1+75) bf N Y ag ah ao ab) (D E)):
 AA q (V (3*f+7)) (.e bf) [O (.c 18),O (.e z),O (.e B),O (.e d),O (.e o),O (.c (L h.l+75)),O (.c (L h.l+1+75)),M,N,Y,ag,ah,ao,ab] (D am) G:=by
 have m:L h.l<L am.l:=(cs.mp a.o).1;have I:L h.l+1<L am.l:=(cs.mp a.l).1;have J:L h.l≠L am.l:=jH m;have Q:L h.l+1≠L am.l:=jH I;have R:=a.b;have ajv:=a.wT;refine Xb.mpr (kP S (h:=am.i (.y [])) (c:=3) ⋯ a.A.c λj ajw p i k=>Au (aU (hy (JR i 1)) ⋯) ?_);refine Xy (f:=3*f+6) (s:=am) (i:=L h.l) (b:=L h.l+1) (e:=L am.l) (M:=1+j) (N:=L au) (H:=aB.u) (I:=aB.D) (g:=(am.i (.y [])).D ajw p) S (br _) (hy m) (jH (hi _)) J Q (gE [_,_,_] [] (.le (.b .a (.b .r .e)) (.y 9)) (.lt .l .L) (.le .a (.f 3 .l)) (.lt .e .L) [1,3,1,1] g R i) (ec (.le (.b .r .a) .L) (.lt .a .L) i) (λT U ajx ajG Y W X n=>?_) (wR _ _) aa
  ⟨a.A.i.D k,a.g.y (dI.i.y .D),aa,aa,aa,aa,(ek m).trans a.o,(ek I).trans a.l,iC ..,by rw[ca];exact a.f,aa⟩
 have u:=a.r;rw[(kB (g6 (.le .a (.b .e .r)) (.l (.b .a .l) .L) (.l (.b .e (.b .l .r)) .L) [1,1,-1] (dc (hy g)) (dc (g))) (g6 (.le (.b .a .r) .e) (.l (.b .e .l) .L) (.l (.b .a (.b .l .r)) .L) [1,-1,1] (dc (hy g)) (dc (g))):3-bf=(3-(bf+1))+1),Nat.mul_add,Nat.mul_one]at u;have Z:L T.c+L T.u=L am.c+L am.u:=by rw[n.c,n.u]
 refine bq (XD (f:=3*f+2) S J Q (hy m) n.r (k' (.le .a .L) (.lt .e .L) (.l .a (.b .r .e)) i X) n.p (hB [_,_,_,_,_,_,_] [] (.le (.b (.b .a .e) (.y 4)) (.y 800000)) (.le .W .l) (.le (.b (.b .s .X) (.b (.b .ab (.b .W (.f 2 .l))) (.u 6))) (.y 800000)) (.l (.b .a .e) (.b .s .X)) (Aw f) u Z) λv r ag b CS ajy=>bx.mpr ((Xe aa).mpr (n' b.l ?_)));rw[wQ b.d];have OL:lZ bs=B\/B=0/\lZ bs=1:=by rcases ajr with⟨rfl,rfl⟩|⟨rfl,rfl⟩|⟨rfl,rfl⟩<;>first|exact .inl aa|exact .inr ⟨aa,aa⟩
 have s:V (3*f+7) 1254 [.c 18,.e (z+1),.e (lZ bs)] (D v) λy H=>f5 H (L h.l+1+75) λl=>fa (L l+1) (hX G (λc H=>a' (aw q (V (3*f+7)) 8) [] c H G) .next (it (.e z) (.e B) d U (L h.l+75) (L h.l+1+75) bf (O (.c (L am.l+75))) Y ag ah ao ab)
  (H.set (L h.l+1+75) (.y (l++[.r [.r (r.map a3.u),y]])))):=by
  refine ajq (z+1) bs v _ ((2+2*jY f)*(3-(bf+1))+aK) (k6 (.b (.b .a .r) .e) .L (.l (.b .a .e) .W) cc [1,-1] C) b.A (by unfold gu;exact hB [_,_,_,_,_,_,_,_,_] [] (.le (.b (.b .a .e) (.b (.f 2 .l) (.b .s .X))) (.y 800000)) (.le (.b (.b .ab (.u 6)) (.b (.b .s (.b .W (.f 2 .l))) .X)) (.y 800000)) (.l (.b (.u 7) (.u 8)) (.b .ab (.u 6))) (.le (.b .a .e) (.b (.b (.u 7) (.u 8)) .W)) u Z ajy) λt x ajG ajz P=>oa (pq P.u b.l) (by rw[a.q];exact kE g ⋯) ?_;have c:=XA r x aB a.h;refine K (t.X (L h.l+1) (.y (aB.u++[.r [.r (r.map a3.u),.r x.u]]))) U ajx (aB.ab r x) _ _ _ (aL a.y λajA A ajB=>aL b.y λy ajl ajC=>aL P.y λw ajD ajm=>bu P.u.W λajG ajE=>bu P.u.u λajG ajn=>bu b.u λajG ajF=>?_);have ajo:=pq P.u b.l;refine⟨P.A.X ajo,(b.g.y P.u).X (fJ _),(lq (Cq _)).trans (pq P.u b.o),c.u▸kr ajo,⟨ajA++(y++w),?_,?_⟩,c.K _ _ _ ?_ ⟨P.K,P.ns⟩,c.ep,by rw[c.X,a.X],by rw[c.u,a6,a.q];rfl,?_,hB [_,_,_,_] [] (.le .a (.f 3 (.b .e .r))) (.le .l (.f 3 .e)) (.lt .s .L) (.l .a (.b .l (.b .r .s))) R i W,g5 [_,_,_,_] [] (.le (.b .a .r) .e) (.le .a .l) (.l .e (.b .l (.b .r .s))) [1,1,-1] ajv W,?_,c.i _ a.i P.i (ev 1 _),λp ajp k=>?_,λe=>b6 e (KW bf),ajz⟩
  ·rw[ajD,ajl,A,bU,bU]
  ·rw[c.y,t',t',ajC];rw[ajl,A,a6,a6,m2,m2,<-mb,<-mb]at ajm;rw[A,a6,m2,<-mb];exact ajB.append ((List.Perm.refl _).append ajm)
  ·rw[ajE,ajn,b.W,ajF,bU];exact aW.aL a.K
  ·rw[c.D,sa,a6,a6];exact⟨hB [_,_,_,_] [] (.le (.b .a .e) (.f 4 (.b .l .r))) (.le .a (.f 4 .l)) (.le .e (.b .s .r)) (.lt .s (.y 4)) a.D.1 CS.1 (by rw[X,xN];exact Nat.succ_lt_succ i),vh a.D.2 CS.2⟩
  ·rw[c.D];rw[ajn];exact b.f.C
  ·rw[c.e];have:=P.e p ajp k;rw[(by rw[b.left]:gK v.left=gK am.left)]at this;refine aU (vh (a.e p ajp k) this) (XE k g (ck (.le (.b .a .r) .L) (.l (.b .a .e) .W) C) (wO ajs) (lY a.g.left) (lY (b.left▸P.u.left)) λe=>by rw[a.s e])
 refine fj (λc=>?_) λc=>?_
 ·rw[(OL.resolve_right λe=>by have:=dT c;exact g5 [] [_,_] .F (.Lt .K .a) (.e (.Eq .a .K) (.Eq .e .r)) [1,1,0] (dT c:) e)]at s;exact s
 ·have e:lZ bs=1:=by
   rcases OL with e|e
   ·have:=iF c;induction bs using fD<;>simp only[lZ]at e⊢<;>lia
   ·exact e.2
  rw[e]at s;exact s
end
def ba (e:fL=O bW)(k:oY bW):a7 fL oY:=by subst e;exact k
theorem wX {f:m}{v:x}:∀{l:b2},(∀p,p∈l->p.1<f)->bF l f v=l++[(f,v)]/\bH (l++[(f,v)]) f=O v
 |[],_=>⟨aa,cP aa⟩
 |(k,b)::r,h=>by have a:¬k=f:=JQ (h (k,b) (db ..));exact bd (wX (v:=v) (l:=r) λp c=>h p (dy _ c)) λc d=>⟨(ce a).trans (cp _ c),(ce a).trans d⟩
theorem dH.aL (b:dH h)(a:d<1000+(L h.c:m))(f:L h.W+1<=L h.c)(g:cB 9 p=af):dH (h.aL d p):=
 ⟨b.c,b.a,b.b,λc e=>(et.mp e).elim (b.e c) λe=>cz.mp e▸a,b.ld,by show L (h.W++_)<=_;rw[a6];exact f,b.d.1,λc a=>(et.mp a).elim (b.d.2.1 c) λa=>by rw[cz.mp a];exact g,b.d.2.2⟩
theorem i9.cB (h:i9 d au p):cB 9 p=true:=by rcases h with⟨_,rfl|⟨_,rfl,_⟩⟩|⟨_,rfl|⟨_,rfl,_⟩|⟨_,_,_,rfl⟩⟩|⟨_,rfl|⟨_,rfl⟩⟩|⟨_,_,rfl,_⟩<;>rfl
theorem dI.aL:dI h (h.aL d p):=⟨aa,g2 _,gl _,gl _,⟨_,aa⟩,gl _⟩
theorem Hq (S:b4 q V){d:j}(g:0<d)(i:d<=3)(b:dH am){K:m->bI}(h:∀a c p,hI c p->K (B+a) (D (am.D c p))):n9 q (V (f+1)) (D am) d B K:=by
 refine kP S g b.c λw c p k l=>?_;have:∃a:m,dD [.e 0,.e 4294967296,.e (-4294967296)] w=O (.e a):=by rcases qJ (iT k i)with rfl|rfl|rfl<;>exact⟨_,aa⟩
 refine bu this λa e=>(?_:a7 (dD _ _) _);rw[e];exact h a c p l
theorem XH (S:b4 q V)(CS:hW d)(b:dH am)(X:∀x,x∈au-> -200<=B-x/\B-x<=200)(P:B.natAbs<10^17){s:n H}
 (K:∀v (bf:j) a c,bf<4->hI a c->i9 d au v->a' (aw q (V (f+1)) 9) s (eU p U d o z aK M N Y ag (O v) (O (.e bf)) aJ) (D (am.D a c)) G):
 a' (aw q (V (f+1)) 9) (wA::wB::r4::pf::s) (eU p U d o z aK M N Y ag (O (.e B)) ao aJ) (D am) G:=by
 refine bx.mpr (Xg.mpr (kP S (c:=4) ⋯ b.c λbf a c t g=>bq ?_));have C:∀v a c,hI a c->i9 d au v->(d=13\/(bH uc d).isSome=af->i9 d au .C)->a' (aw q (V (f+1)) 9) (pf::s) (eU p U d o z aK M N Y ag (O v) (O (.e bf)) aJ) (D (am.D a c)) G:= λv a c g Q R=>bx.mpr (Xj.mpr (fj (λk=>fj (λe=>bq (K _ bf a c t g (R (.inl (dT e))))) λk=>fj (λe=>bq (K _ bf a c t g (R (.inr e)))) λk=>bq (K _ bf a c t g Q)) λk=>bq (K _ bf a c t g Q)));have T:∀i a c,hI a c->(¬Ap d->i=B)->a' (aw q (V (f+1)) 9) (r4::pf::s) (eU p U d o z aK M N Y ag (O (.e i)) (O (.e bf)) aJ) (D (am.D a c)) G:= λi a c g e=>by
  refine bx.mpr (Xi.mpr (fj (λw=>?_) λw=>fj (λy=>?_) λy=>?_))
  ·obtain rfl:d=13:=dT w;have e:i=B:=e λh=>by rcases h with h|h|h<;>cases h
   exact wU (by rw[e];exact kE P ⋯) (bq (C _ a c g (.inl ⟨aa,.inr ⟨_,aa,AC _⟩⟩) λk=>.inl ⟨aa,.inl aa⟩))
  ·obtain rfl:d=12:=dT y;have e:i=B:=e λh=>by rcases h with h|h|h<;>cases h
   have r:∀l:m,(l=7\/l=9)->qK i λx=>a7 (dD [pp l i,x,pp 9 i,.C] bf) λx=>hX G (λL E=>a' (aw q (V (f+1)) 9) (pf::s) L E G) .next (eU p U 12 o z aK M N Y ag (O x) (O (.e bf)) aJ) (D (am.D a c)):= λl u=>by
    refine wU (by rw[e];exact kE P ⋯) ?_;have:∃v,dD [pp l i,.f (gM i),pp 9 i,.C] bf=O v/\i9 12 au v:=by
     refine(Hi t).elim (λe=>?_) λe=>e.elim (λe=>?_) λe=>e.elim (λe=>?_) λe=>?_<;>rw[e]
     ·exact⟨_,aa,.inr (.inl ⟨aa,ey ⟨_,_,u,aa⟩⟩)⟩
     ·exact⟨_,aa,.inr (.inl ⟨aa,.inr (.inl ⟨_,aa,AC _⟩)⟩)⟩
     ·exact⟨_,aa,.inr (.inl ⟨aa,ey ⟨_,_,.inr aa,aa⟩⟩)⟩
     ·exact⟨_,aa,.inr (.inl ⟨aa,.inl aa⟩)⟩
    exact aL this λv e A=>ba e (bq (C v a c g A λh=>by rcases h with h|h<;>cases h))
   exact fj (λk=>r 9 (.inr aa)) λk=>r 7 (.inl aa)
  ·have l:d≠13:=iF w;have A:d≠12:=iF y;refine bq (C _ a c g ?_ λh=>?_)
   ·by_cases h:d=19\/d=20
    ·exact ey (.inl ⟨h,.inr ⟨_,aa⟩⟩)
    ·exact mj ⟨⟨l,A,λe=>h (.inl e),λe=>h (.inr e)⟩,_,aa,λF x r=>by rw[e F];exact X x r⟩
   ·refine ey (.inl ⟨?_,.inl aa⟩);have h:=h.resolve_left l;by_cases r:(19:m)=d
    ·exact .inl r.symm
    ·by_cases u:(20:m)=d
     ·exact .inr u.symm
     ·rw[show bH uc d=ab from(ce r).trans (ce u)]at h;injection h
 have W:=b.D g;have I:∀(A:m->bI),(∀u l r,hI l r->A (B+u) (D ((am.D a c).D l r)))->bB (an (d=10)) (n9 q (V (f+1)) (D (am.D a c)) 2 B A) (n9 q (V (f+1)) (D (am.D a c)) 3 B A):= λA h=>
  fj (λk=>Hq S (d:=2) ⋯ ⋯ W h) λk=>Hq S (d:=3) ⋯ ⋯ W h
 have J:Ap d->∀u l r,hI l r->hX G (λL E=>a' (aw q (V (f+1)) 9) (r4::pf::s) L E G) .next (eU p U d o z aK M N Y ag (O (.e (B+u))) (O (.e bf)) aJ) (D ((am.D a c).D l r)):= λF u l r Z=>
  bq (T (B+u) l r Z λh=>b6 F h)
 refine bx.mpr (Xh.mpr (fj (λe=>I _ (J (.inl (dT e)))) λw=>fj (λe=>I _ (J (ey (dT e)))) λy=>fj (λe=>I _ (J (.inr (.inl (dT e))))) λCS=>bq (T B a c g λk=>aa)))
section
def sc (h:aV):jr ⟨k,ab⟩ c aV:=h
def add_int (h:w (.e (d+o)) c):rG (.e d) (.e o) c w:=h
def hY (h:w (.c (L c)) (c++[aZ])):mk c aZ w:=h
def XI:Hm q A G [O (.c 18),O p,O U,M,N,Y,ag,ah,ao,aJ,bc,bA,b',cy] (.r [.e d,.e o]) c=G .next [O (.c 18),O p,O U,O (.e d),O (.e o),Y,ag,ah,ao,aJ,bc,bA,b',cy] c:=()
theorem fP.a (h:fP d 0 aj cH)(c:∀a b,ln aj a b->a≠o):fP d o aj cH:=by
 induction cH using iD with
 |b b a f=>exact⟨h.1,h.2.imp id λq=>⟨q.1,c _ _ q.1⟩⟩
 |_=>exact h
theorem Hr (a:sb h f z aK bs d bf o au aB am)(B:hW d)(C:dH h)(D:z+f=2)(E:1<=bf)(c:bf<=3){g:x}{k:m}{t:aq}(F:i9 d au g)(H:dH t)(G:dI am t)(I:t.c=am.c++[d])(r:t.W=am.W++[(1000+(L am.c:m),g)])(J:t.left=am.left)
 (j:k=0\/ln t.u k d/\k=L am.u+1):gN (6*f+4) (λp t o b=>p.a+t.l (z+1) o b) bs h t (.c d (1000+L am.c) k g aB):=by
 refine aL a.y λK s M=>bu G.u λT u=>?_;have w:=a.b;refine⟨H,a.g.y G,⟨K++[d],by rw[I,s,bU],?_⟩,⟨⟨B,a.h,j.imp id yd,λl N=>?_,a.f.c.sublist a.f.bz,λb y n P=>?_,?_,?_,?_,?_⟩,?_,?_⟩,λp Q A=>?_,vg a.i 3,bY⟩
 ·rw[t',s,a6,m2,<-mb];exact(ye (l₁:=[_])).trans (M.append_right _)
 ·rw[u];refine((a.f.ok l N).a (o:=k) λi i v e=>aL v λi q R=>?_).C;rcases j with j|⟨_,j⟩
  ·exact gE [_] [_,_] .F (.Eq .a .e) (.Eq .a (.b (.d .a) .r)) (.Eq .e .K) [1,-1,1] e q j
  ·exact lI [_,_] [_,_] .F (.Eq .a .e) (.Eq .a (.b (.d .a) .r)) (.lt .a .e) (.Eq .e (.b (.d .e) .r)) [-1,1,1,-1] e q ((cs.mp R).1) j
 ·exact c9 (a.f.fe b (a.f.bz.subset n)) λq q e=>c9 (a.f.fe y (a.f.bz.subset P)) λq i q=>lI [_,_] [_,_,_] (.a (.c .a .e) (.y 100)) (.le .a .L) (.le .e (.f 3 .a)) (.a (.c .l .e) (.f 7 (.d .e))) (.Lt .a .l) [1,21,7,1,1] c w e i
 ·have:=a.f.bz.length_le;exact gE [_,_,_] [] (.le .a (.y 9)) (.le .e .L) (.le .l (.f 3 .e)) (.le .a .l) [1,3,1,1] c w this
 ·exact⟨by have:=a.D.1;exact lK (.le .a (.y 12)) (.le .e .L) (.le .a (.f 4 .e)) [1,4,1] c this,aU a.D.2 c⟩
 ·rw[a.X];exact c
 ·refine F.imp id λq=>q.imp id λq=>q.imp id λ⟨e,v,i,R⟩=>⟨e,v,i,λS b n=>R S b (a.f.bz.subset n)⟩
 ·rw[r];exact(wX a.A.e).2
 ·rw[r,u];exact aW.aL a.K
 ·rw[J];exact iE (aU (a.e p Q A) (XF A c E (ck (.le (.b .a .r) .L) (.l (.b .a .e) .W) D) (wO C) (lY a.g.left))) _
set_option maxHeartbeats 2000000 in
theorem XJ (S:b4 q V)(a:sb h f z (2+aK) bs d bf o au aB am)(F:hW d)(M:dH h)(N:z+f=2)(G:1<=bf)(r:bf<=3){CS OL:x}
 (K:∀t P Q g,gu t aK->gN (6*f+4) (λp t o b=>p.a+t.l (z+1) o b) bs h t (.c d P Q g aB)->w (.r [.e 9,cW d P,.r aB.u,.e Q]) (D t)):
 a' (aw q (V (3*f+7)) 9) [wz,wA,wB,r4,pf,zQ,zR,zS] (eU CS OL d o (L h.l+75) (L h.l+1+75) ah ao aJ bc bA b' cy) (D am) (ch w):=by
 have H:=a.b;refine bx.mpr ((Xf (n8 a.o)).mpr ?_);rw[cj];refine kP S (iT G a.wT) a.A.c λi b c ajl s=>?_;have R:=a.A.D s;obtain⟨u,T⟩:∃u,au[i]?=O u:=⟨_,eM ajl⟩;refine ba (n8 a.o) (ba (bW:=.e u) (by show(au.map x.e)[i]?=_;rw[h4,T];rfl) ?_);refine kP S (c:=3) ⋯ R.c λajm e k ajn s=>?_;have U:=R.D s;have:∃j:m,dD [.e 0,.e (-1),.e 1] ajm=O (.e j)/\ -1<=j/\j<=1:=by rcases qJ ajn with rfl|rfl|rfl<;>exact⟨_,aa,⋯,⋯⟩
 refine dU this λj ajo W X=>ba ajo (add_int (bq ?_));have A:=a.f.fe u (jK T);refine XH (f:=3*f+6) (au:=au) S F U (λy B=>?_) ?_ λv ajq l p ajq s I=>?_
 ·have B:=a.f.fe y B;clear this;exact k0 (m5 [_,_] [_,_,_,_] (.a (.g (.y 200)) (.c (.b .a .e) .l)) (.le .a .L) (.le .e (.f 3 .a)) (.a (.g .r) .e) (.e (.a (.g .W) .a) (.e (.Lt .a .s) (.a (.c .s .a) (.f 7 (.d .e))))) (.e (.a (.g .W) .l) (.e (.Lt .l .s) (.a (.c .s .l) (.f 7 (.d .e))))) [1,21,7,1,0,0,1,0,1,0] r H W A B) (m5 [_,_] [_,_,_,_] (.a (.c (.b .a .e) .l) (.y 200)) (.le .a .L) (.le .e (.f 3 .a)) (.a .e .r) (.e (.a (.g .W) .a) (.e (.Lt .a .s) (.a (.c .s .a) (.f 7 (.d .e))))) (.e (.a (.g .W) .l) (.e (.Lt .l .s) (.a (.c .s .l) (.f 7 (.d .e))))) [1,21,7,1,0,1,0,0,0,1] r H X A B)
 ·clear this;exact g4 (s4 (f:=10000000000) (g5 [_] [_,_,_] (.a .K (.b (.b .a .e) (.d (.y 10000000000)))) (.a (.g .r) .e) (.e (.a (.g .W) .a) (.e (.Lt .a .l) (.a (.c .l .a) (.f 7 (.d .a))))) [1,1,1,0,0] W A) (m5 [_,_] [_,_,_] (.a (.b .a .e) (.d (.y 10000000000))) (.le .a .L) (.le .e (.f 3 .a)) (.a .e .r) (.e (.a (.g .W) .a) (.e (.Lt .a .l) (.a (.c .l .a) (.f 7 (.d .e))))) (.a .l (.b (.y 4294967294) (.f 7 (.d .e)))) [1,21,7,1,0,1,0,1] r H X A a.f.d)) ⋯
 have n:=a.r;have n:L am.c+L am.u+(2+aK)<=800000:=aU (iE (ev _ _) _) n;refine bx.mpr (Xk.mpr (pn S (h:=((am.D b c).D e k).D l p) (g4 (aU (cZ _ _) (aU (cZ _ (2+aK)) n)) ⋯) (bq ?_)));have Y:=(U.D s).K (d:=d);refine bx.mpr ((Xl (h:=(((am.D b c).D e k).D l p).K d)).mpr (fM ?_ (bq ?_)))
 ·exact aU (gy Y.f) (by show L (am.c++[d])+1<=de;rw[a6,show L [d]=1 from aa];unfold de;exact ex (.le (.b (.b .a .r) .r) (.y 1000000)) (.le (.b (.b .a .e) (.b .W .l)) (.y 800000)) n)
 rw[show(bF ((((am.D b c).D e k).D l p).K d).W (1000+L (((am.D b c).D e k).D l p).c) v)=am.W++[(1000+(L am.c:m),v)]from(wX a.A.e).1];have C:L (am.c++[d])=L am.c+1:=a6 ..;have Z:dH (((((am.D b c).D e k).D l p).K d).aL (1000+(L am.c:m)) v):=Y.aL (by show _<1000+(L (am.c++[d]):m);rw[C];exact em (.Lt (.b (.y 1000) (.d .a)) (.b (.y 1000) (.d (.b .a .r))))) (by show L am.W+1<=L (am.c++[d]);rw[C];exact gy a.A.f) I.cB;have J:dI am (((((am.D b c).D e k).D l p).K d).aL (1000+(L am.c:m)) v):=dI.D.y (dI.D.y (dI.D.y (dI.K.y .aL)));refine bx.mpr ((Xm (h:=((((am.D b c).D e k).D l p).K d).aL (1000+(L am.c:m)) v)).mpr (ba (wQ (pq J a.l)) ?_));have E:L am.d=L am.u:=a.A.a.1;refine fj (λajp=>?_) λajp=>K _ _ 0 v (by show L (am.c++[d])+L am.u+aK<=_;rw[C];exact ex (.le (.b (.b (.b .a .r) .e) .l) (.y 800000)) (.le (.b (.b .a .e) (.b .W .l)) (.y 800000)) n) (Hr a F M N G r I Z J aa aa aa (.inl aa))
 ·refine ua S (a.A.b.trans E.symm) (show L am.d<900000 by exact kc (.lt .a (.y 900000)) (.le (.b (.b .e .l) (.b .W .s)) (.y 800000)) (.l .a .l) n E) (K _ _ _ v (by show L (am.c++[d])+L (am.u++[(d,0)])+aK<=_;rw[C,a6,show L [(d,(0:m))]=1 from aa];exact ex (.le (.b (.b (.b .a .r) (.b .e .r)) .l) (.y 800000)) (.le (.b (.b .a .e) (.b .W .l)) (.y 800000)) n) (Hr a F M N G r I Z.an (J.y .an) aa aa aa (.inr ⟨⟨L am.u,by show(L am.d:m)+1=_;rw[E],iC ..⟩,by show(L am.d:m)+1=_;rw[E]⟩)))
def XK (s b:aq)(e d c:j)(a k:m)(n:j)(f:aS)(H:Z):Prop:=∀P:aS->bI,(∀(am:aq)(o:m)(au:bk)(aB:aW)(ah ao aJ bc:be),sb b e d (2+c) (an (a=2)) k n o au aB am->P (eU (.e d) (.e a) k o (L s.l+75) (L s.l+1+75) ah ao aJ bc ab ab ab) (D am))->P f H
theorem AE (S:b4 q V)(u:r' V f):wP V f:=by
 intro z B s w aK r v b k h;refine S.r (W6.mpr (bx.mpr (W7.mpr (Xt (f:=3*f+5) S b.c λd o a p x y A C=>XI.mpr (bq (bx.mpr (W8.mpr (hY (bq (bx.mpr (W9.mpr (hY (bq (bx.mpr (W'.mpr ?_)))))))))))))));have i:=b.D C;rw[show L (D (s.D a p)++[aX.y []])=L s.l+1+75 by rw[a6];rfl];refine kP S (h:=((s.D a p).i (.y [])).i (.y [])) (c:=3) ⋯ i.c λj E F l G=>Au (aU (hy (JR l 1)) ⋯) ?_;have H:L (s.D a p).l<L ((s.D a p).l++[aX.y []]):=by rw[a6];exact hi _
 have I:sb (s.D a p) f z (2+aK) (an (B=2)) d 0 o [] .l ((((s.D a p).i (.y [])).i (.y [])).D E F):=by refine⟨i.i.i.D G,dI.i.y (dI.i.y .D),(ek H).trans (iC ..),?_,⟨[],(ca _).symm,.refl _⟩,bY,bY,aa,aa,⟨br _,br _⟩,br _,br _,⟨.slnil,.nil,λe h=>b6 h m0,y,A,λe h=>b6 h m0⟩,ev 1 _,λe e e=>br _,λe=>aa,gu.b k (by lia)⟩;show((s.l++[aX.y []])++[aX.y []])[L s.l+1]?=_;rw[show L s.l+1=L (s.l++[aX.y []]) by rw[a6];rfl];exact iC ..
 refine wM (fG:=⟨fT 0 (1+j),ab⟩) (XK s (s.D a p) f z aK B d) (λn M c K N J Q e=>?_) (λM c J=>?_) λP K=>K _ o [] .l ab ab ab ab I
 ·apply J;intro am o au aB ah ao aJ bc h;rw[uO];exact XG (h:=s.D a p) S u r (by rcases v with rfl|rfl|rfl<;>first|exact .inl ⟨aa,aa⟩|exact .inr (.inl ⟨aa,aa⟩)|exact ey ⟨aa,aa⟩:B=0/\decide (B=2)=false\/B=1/\decide (B=2)=false\/B=2/\decide (B=2)=true) i (iT N (iE (B6 l) 1)) h λg t R T ao aJ bc m=>Q _ _ λP K=>K g t R T (O (.e n)) ao aJ bc m
 ·apply J;intro am o au aB ah ao aJ bc m;exact sc (bq (XJ (h:=s.D a p) S m x i r (cZ 1 j) (iE (B6 l) 1) λt R T g k P=>h t d R T g aB k (P.l (dI.D (k:=a) (d:=p)) aa aa)))
end
def XM (b c:n ac)(d:aQ)(P:gT)(_:j)(C:aQ):aQ:= λf a H Q=>match c.any (f1 f)with
 |true=>d f a H Q
 |false=>match b.any (f1 f)with
  |true=>dE (iq (cB 9) a) (bM bK P C f a [] λv e=>dE (cB 9 v) (Q v H))
  |false=>bM bK P C f a H Q
def ie (b c:n ac)(d:aQ)(P:gT)(e:j):aQ:=sE (motive:= λa=>aQ) (λa a a a=>c8) (XM b c d P) e
theorem np {d D} (S:b4 d D){e g:n ac}{N:j}{i:aQ}(l:∀f a H Q,i f a H Q->D N f a H Q):∀{c f a H Q},ie e g i (al d) c f a H Q->D (N+c) f a H Q:=by
 intro c;induction c with
 |zero=>intro f a H Q h;exact h.elim
 |succ c k=>
  intro f a H Q h;have h:(match g.any (f1 f)with
   |true=>i f a H Q
   |false=>match e.any (f1 f)with
    |true=>dE (iq (cB 9) a) (bM bK (al d) (ie e g i (al d) c) f a [] λv b=>dE (cB 9 v) (Q v H))
    |false=>bM bK (al d) (ie e g i (al d) c) f a H Q):=h
  cases q:g.any (f1 f)with
  |true=>rw[q]at h;exact S.c4 (cZ _ _) (l _ _ _ _ h)
  |false=>
   rw[q]at h;cases q:e.any (f1 f)with
   |true=>rw[q]at h;exact S.pure (nR h).1 (S.e (λb b b b h=>k h) (nR h).2)
   |false=>rw[q]at h;exact S.e (λb b b b h=>k h) h
noncomputable def AF (a:E)(b:m)(c:E)(r:Z):Z:=
 .a 599 [(66,.c 63),(59,.c 4),(32,.c 5),(23,.c 72),(45,.c 76),(34,.e b),(60,.c 77),(18,.c 78),(58,.c 79),(56,.c 80)]::.y a::.y c::
 .h [(20,.c 89),(21,.c 90)]::.h [(1,.c 81),(2,.c 82),(3,.c 83),(4,.c 84),(12,.c 85),(13,.c 86),(16,.c 87),(18,.c 88),(5,.c 91),(9,.c 92),(10,.c 93),(11,.c 94)]::
 .a 536 []::.a 935 []::.a 954 []::.a 973 []::.a 992 []::.a 1011 []::.a 1030 []::.a 1049 []::.a 1068 []::.a 827 []::.a 846 []::.a 1132 []::.a 1219 []::.a 1087 []::.a 1106 []::r
def aq.b (s:aq)(a:E)(b:m)(c:E):aq:={s with l:=AF a b c s.l}
noncomputable abbrev iu:n Addr:=[458,643,636]
noncomputable abbrev bC:x:=.c 75
abbrev jj (a:ac->Q E)(b:aQ)(n:j):aQ:=ie iu [622] b (al a) n
def XN:bM bK (al q) (jj q A (f+9)) 622 [bC,.r [.e 1,cW o B]] (D (h.b k d I)) w=fa (L k+1) (w .C (D (h.b (k++[.r [.e 1,cW o B]]) d I))):=()
def XO:bM bK (al q) (jj q A (f+9)) 622 [bC,.r [.e 12,cW 7 o]] (D (h.b k d I)) w=fa (L k+1) (w .C (D (h.b (k++[.r [.e 12,cW 7 o]]) d I))):=()
theorem XP:bM bK (al q) (jj q A (f+9)) 622 [bC,.r [.e 10]] (D (h.b k d I)) w=a7 (dD I ((L I:m)-1)) λx=>ed (al q) x (.e 0) (D (h.b k d I)) λl=>fa (L k+1) (w .C (D (h.b (k++[.r [.e 21,l]]) d I))):=()
theorem XQ:bM bK (al q) (jj q A (f+9)) 622 [bC,.r [.e 11]] (D (h.b k d I)) w=a7 (dD I ((L I:m)-1)) λx=>ed (al q) x (.e 1) (D (h.b k d I)) λl=>fa (L k+1) (w .C (D (h.b (k++[.r [.e 21,l]]) d I))):=()
inductive aE where
 |p (k:m)(a:x)
 |h (k l:m)
 |K (k f:m)
 |conv (k:m)(e:aE)(c:m)
 |q (k:m)(o:j)(a b:aE)
 |t (a b:aE)
 |z (a:aE)
 |is (e:aE)(k:m)
 |v (k:m)(e:aE)
 |d (k l:m)(e:aE)
 |w (a e:aE)
 |A (k:m)(e:aE)
 |G (c k:m)(e:aE)
 |B (a b:aE)
def aE.aN {d:Sort _}(c:m->x->d)(l r:d)(u g:d->d)(b:d->d->d)(e:aE):d:=e.rec c (λa a=>l) (λa a=>r) (λa a a=>u) (λa a a a=>b) (λa a=>b) (λa=>u) (λa a=>u) (λa a=>u) (λa a a=>g) (λa a=>b) (λa a=>u) (λa a a=>u) λa a=>b
def aE.u (e:aE):x:=e.rec (λk a=>.r [.e 1,.e k,a]) (λk l=>.r [.e 2,.e k,.e l]) (λk f=>cW k f) (λk b c a=>.r [.e 19,.e k,a,.e c,.e 0])
 (λk o b b a y=>.r [.e 14,.e k,.f (bG o),a,y,.e 0]) (λb b a y=>.r [.e 15,.e 1,a,y]) (λb a=>.r [.e 13,.e 1,.f (bG 88),a,.e 0]) (λb k a=>.r [.e 20,.e 1,a,.e k,.e 0])
 (λk b a=>.r [.e 21,.e k,a]) (λk l b a=>.r [.e 22,.e k,.r [.e 2,.e k,.e l],a]) (λb b a y=>.r [.e 31,.e 1,.r [a],y])
 (λk b a=>.r [.e 8,.e 1,a,.r [.e k,.e 66,.r []],.r [],.e 0]) (λc k b a=>.r [.e 8,.e c,a,.r [.e k,.e 68,.r []],.r [],.e 0])
 λb b a y=>.r [.e 8,.e 1,.C,.r [.e 13,.e 13,.r []],.r [a,y],.e 0]
set_option genCtorIdx true in
inductive S where
 |r (e:aE)
 |c (f:m)
 |a (l:m)
 |bw (l:m)
 |b (e:aE)(w l:m)
 |d (e:aE)(a:bk)
def S.u (g:S):x:=match g with
 |.r e=>.r [.e 1,e.u]
 |.c f=>.r [.e 12,cW 7 f]
 |.a l=>.r [.e 20,.e l]
 |.bw l=>.r [.e 21,.e l]
 |.b e w l=>.r [.e 22,e.u,.e w,.e l]
 |.d e f=>.r [.e 23,e.u,.r (f.map .e)]
noncomputable def fQ (k:m):Int:=match an (k=7\/k=4\/k=2\/k=16\/k=18)with
 |true=>7
 |false=>match an (k=9\/k=17)with|true=>9|false=>match an (k=8)with|true=>8|false=>match an (k=10)with|true=>10|false=> -1
def fd (k:m)(e:aE):aE:=match an (k=fQ k)with|true=>e|false=>.conv (fQ k) e 1
def jv (k l n:m):aE:=match an (k=19)with
 |true=>.t (.A 19 (.h 19 l)) (.q 1 92 (.G 7 19 (.h 19 l)) (.p 7 (.e n)))
 |false=>match an (k=20)with
  |true=>.t (.A 20 (.h 20 l)) (.q 1 92 (.conv 9 (.G 17 20 (.h 20 l)) 1) (.p 9 (.e n)))
  |false=>match an (k=12)with
   |true=>(match an (n< -2147483648\/2147483647<n)with
    |true=>.t (.is (.h 12 l) 9) (.q 1 92 (.conv 9 (.h 12 l) 5) (.p 9 (.e n)))
    |false=>.t (.is (.h 12 l) 7) (.q 1 92 (.conv 7 (.h 12 l) 5) (.p 7 (.e n))))
   |false=>.q 1 92 (fd k (.h k l)) (.p (fQ k) (.e n))
noncomputable def nq (k l:m)(x:aH):aE:=match an (k=13)with
 |true=>.B (.h 13 l) (.p 13 (.f x))
 |false=>.B (.v 13 (.h 12 l)) (.p 13 (.f x))
noncomputable def l1 (k l:m):aE:=match an (k=12\/k=13)with
 |true=>.z (.q 1 89 (.h k l) (.p k .C))
 |false=>.z (.A k (.h k l))
abbrev ig (a:ac->Q E)(n:j):aQ:=qF iu (al a) n
theorem XR (c:hW J)(g:J≠13):ig q (f+9) 1169 [bC,.r [.e 2,.e J,.e o],.r [.e 1,.e B]] (D (h.b k d I)) w↔w (jv J o B).u (D (h.b k d I)):=by
 rcases c with rfl|rfl|rfl|rfl|rfl|rfl|rfl|rfl|rfl|rfl|rfl|rfl|rfl
 ·exact f3 ()
 ·exact f3 ()
 ·exact f3 ()
 ·exact f3 ()
 ·exact f3 ()
 ·exact f3 ()
 ·exact f3 ()
 ·exact f3 ()
 ·exact f3 ()
 ·exact f3 ()
 ·exact f3 ()
 ·exact b6 aa g
 ·have e:ig q (f+9) 1169 [bC,.r [.e 2,.e 12,.e o],.r [.e 1,.e B]] (D (h.b k d I)) w=
   bB (an (B< -2147483648)) (w (aE.t (.is (.h 12 o) 9) (.q 1 92 (.conv 9 (.h 12 o) 5) (.p 9 (.e B)))).u (D (h.b k d I)))
    (bB (an (2147483647<B)) (w (aE.t (.is (.h 12 o) 9) (.q 1 92 (.conv 9 (.h 12 o) 5) (.p 9 (.e B)))).u (D (h.b k d I)))
     (w (aE.t (.is (.h 12 o) 7) (.q 1 92 (.conv 7 (.h 12 o) 5) (.p 7 (.e B)))).u (D (h.b k d I)))):=()
  rw[e];by_cases a:B< -2147483648
  ·rw[dz a,show jv 12 o B=_ from aa];delta jv;rw[dz (show B< -2147483648\/2147483647<B from .inl a)];exact Iff.rfl
  ·by_cases b:2147483647<B
   ·rw[cL a,dz b];delta jv;rw[dz (show B< -2147483648\/2147483647<B from .inr b)];exact Iff.rfl
   ·rw[cL a,cL b];delta jv;rw[cL (show¬(B< -2147483648\/2147483647<B)fromλi=>i.elim a b)];exact Iff.rfl
theorem XS (a:B=13\/B=12):ig q (f+9) 1169 [bC,.r [.e 2,.e B,.e o],.r [.e 1,.f a9]] (D (h.b k d I)) w↔w (nq B o a9).u (D (h.b k d I)):=by
 rcases a with rfl|rfl
 ·exact f3 ()
 ·exact f3 ()
theorem XT (a:B=12\/B=13\/B=19\/B=20):ig q (f+9) 1169 [bC,.r [.e 2,.e B,.e o],.r [.e 4]] (D (h.b k d I)) w↔w (l1 B o).u (D (h.b k d I)):=by
 rcases a with rfl|rfl|rfl|rfl
 ·exact f3 ()
 ·exact f3 ()
 ·exact f3 ()
 ·exact f3 ()
noncomputable def ih (k l:m):aE:=match an (k=12)with|true=>.h 12 l|false=>.conv 12 (.h k l) 4
theorem XU (a:B=7\/B=9\/B=12\/B=16)(b:J=7\/J=9\/J=13\/J=16):ig q (f+9) 610 [bC,.r [.e 20,.e 1,.r [.e 2,.e B,.e o],.e J,.e 0]] (D (h.b k d I)) w↔w (aE.is (ih B o) J).u (D (h.b k d I)):=by rcases a with rfl|rfl|rfl|rfl<;>rcases b with rfl|rfl|rfl|rfl<;>exact f3 ()
abbrev wY (a:ac->Q E)(b:aQ)(n:j):aQ:=ie iu [444] b (al a) n
theorem XV:wY q A (f+9) 610 [bC,.r [.e 20,.e 1,.r [.e 2,.e 12,.e o],.e 13,.e (z+1:j)]] (D (h.b k d I)) w=a7 (h.d.map hV)[z]? λB=>gH (al q) B 31 (D (h.b k d I)) λa=>
 w (.r [.e 31,.e 1,.r [.r [.e 22,a,.r [.e 2,a,.e (z+1:j)],.r [.e 21,.e 13,.r [.e 2,.e 12,.e o]]]],.r [.e 14,.e 1,.f (bG 89),.r [.e 2,a,.e (z+1:j)],.r [.e 1,.e 13,.C],.e 0]]) (D (h.b k d I)):=()
noncomputable abbrev AG (t:x)(b:m)(a:x)(i:j):x:=.r [.e 15,.e 1,.r [.e 20,.e 1,t,.e b,.e 0],.r [.e 31,.e 1,.r [.r [.e 22,a,.r [.e 2,a,.e (i+1:j)],.r [.e 19,a,t,.e 5,.e 0]]],.r [.e 1,.e 1,.e 1]]]
theorem XW (b:o=7\/o=9):wY q A (f+9) 610 [bC,.r [.e 20,.e 1,.r [.e 2,.e 12,.e (aK+1:j)],.e o,.e (z+1:j)]] (D (h.b k d I)) w=a7 (h.d.map hV)[z]? λB=>gH (al q) B 31 (D (h.b k d I)) λa=>
 a7 (h.d.map hV)[aK]? λy=>gH (al q) y 22 (D (h.b k d I)) λc=>cR c λe=>bB (!(Builtin.bitAnd e (Builtin.bitOr 2 4)==0))
  (A 444 [.c 63,.e 1,.f (bG 96),.e 12,.e 32] (D (h.b k d I)) λv H=>w (.r [.e 31,.e 1,.r [.r [.e 22,.e 12,.r [.e 2,.e 12,v],.r [.e 2,.e 12,.e (aK+1:j)]]],AG (.r [.e 2,.e 12,v]) o a z]) H) (w (AG (.r [.e 2,.e 12,.e (aK+1:j)]) o a z) (D (h.b k d I))):=by
 rcases b with rfl|rfl<;>rfl'
theorem XX (a:J=7\/J=9\/J=16)(b:aF=7\/aF=9\/aF=16):wY q A (f+9) 610 [bC,.r [.e 20,.e 1,.r [.e 2,.e J,.e o],.e aF,.e (z+1:j)]] (D (h.b k d I)) w=a7 (h.d.map hV)[z]? λB=>gH (al q) B 31 (D (h.b k d I)) λc=>
 A 444 [.c 63,.e 1,.f (bG 96),.e 12,.e 32] (D (h.b k d I)) λv H=>w (.r [.e 31,.e 1,.r [.r [.e 22,.e 12,.r [.e 2,.e 12,v],(ih J o).u]],AG (.r [.e 2,.e 12,v]) aF c z]) H:=by
 rcases a with rfl|rfl|rfl<;>rcases b with rfl|rfl|rfl<;>rfl'
theorem nr:∀(n:j)(b:x),cB n b=af->dG aC b b:=by
 have k:∀(g:x->bm),(∀b,g b=af->dG aC b b)->∀l,iq g l=af->d1 aC l l:=by
  intro g m l;induction l with
  |nil=>intro a;exact .l
  |cons a l i=>
   intro h;have h:(match g a with|true=>iq g l|false=>aN)=true:=h;cases q:g a with
   |true=>rw[q]at h;exact .a (m a q) (i h)
   |false=>rw[q]at h;injection h
 intro n;induction n with
 |zero=>intro b h;induction b using eh<;>first|exact b6 h k3|constructor
 |succ n i=>
  intro b h;induction b using eh with
  |c=>exact b6 h k3
  |r l=>exact .r (k _ i l h)
  |C=>exact .C
  |d=>exact .d _
  |e=>exact .e _
  |f=>exact .f _
  |h=>exact .h _
theorem XY (S:b4 q V){n:j}{f:ac}{e:x}{l:E}{i:j}{H:Z}{Q:bg}(B:dG [i] e e)(C:d1 [i] l l) (d:H[i]?=O (.y l)) {v:x}(D:∀p s,dG p v s->s=v)
 (h:V n f [e,.c 0] [.y l] λu w=>u=v/\w[0]?=O (.y l)) (F:∀p m,d1 p l m->m=l)(G:∀g,Q v (H++g)):V n f [e,.c i] H Q:=by
 refine S.frame (c:=[i]) (g:=[.y l]) (pL.mpr ⟨m0,Cu⟩) aa (λk b o a t=>?_) (.a B (.a (.c aa) .l)) (S.imp (λu w z s A o P=>?_) h)
 ·induction k using dx with
  |zero=>replace a:=aY a;subst a;replace t:=aY t;subst t;exact⟨_,d,.y C⟩
  |succ k=>injection a
 ·refine bd z ?_;clear z;rintro rfl I;rw[D _ _ P.val];have o:i<L H:=(cs.mp d).1;have J:A=H++A.drop (L H):=by
   refine KX λb=>?_;by_cases c:b<L H
   ·rw[ek c];by_cases e:b=i
    ·subst e;refine aL (P.e 0 b _ (by rw[P.b];rfl) I) λo a r=>?_;rw[a,d];cases r with|y r=>rw[F _ _ r]
    ·exact P.a b c λm=>e (cz.mp m)
   ·rw[hh (lC c),sX,sy (lC c)]
  rw[J];exact G _
theorem AH:∀(n:j)(b:x),cB n b=af->∀y,dG aC b y->y=b:=by
 have o:∀(g:x->bm),(∀b,g b=af->∀y,dG aC b y->y=b)->∀l,iq g l=af->∀m,d1 aC l m->m=l:=by
  intro g p l;induction l with
  |nil=>intro h m r;cases r;rfl
  |cons i l k=>
   intro h m r;have h:(match g i with|true=>iq g l|false=>aN)=true:=h;cases r with
   |a s t=>
    cases q:g i with
    |true=>rw[q]at h;rw[p i q _ s,k h _ t]
    |false=>rw[q]at h;injection h
 intro n;induction n with
 |zero=>intro b h y r;cases r<;>first|exact b6 h k3|rfl
 |succ n k=>
  intro b h y r;induction r using dG.casesOn with
  |c=>exact b6 h k3
  |r r=>rw[o _ k _ h _ r]
  |C=>rfl
  |d=>rfl
  |e=>rfl
  |f=>rfl
  |h=>rfl
def XZ (h:iq (cB f) k=af):d1 aC k k:=by have:=nr (aC:=aC) (f+1) (.r k) h;cases this with|r r=>exact r
def X0 (h:iq (cB f) k=af)(r:d1 aC k I):I=k:=by have:=AH (aC:=aC) (f+1) (.r k) h _ (.r r);cases this;rfl
noncomputable def sd (t:aE)(a b:m):aE:=.t (.is t a) (.w (.d a b (.conv a t 5)) (.p 1 (.e 1)))
def ef (k l b a T:m):aE:=match an (a=0)with
 |true=>.is (ih k l) b
 |false=>match an (b=13)with
  |true=>.w (.d 13 a (.v 13 (.h 12 l))) (.q 1 89 (.h 13 a) (.p 13 .C))
  |false=>match an (k=12)with
   |true=>sd (.h 12 l) b a
   |false=>.w (.d 12 T (ih k l)) (sd (.h 12 T) b a)
noncomputable def mI (k a:m):Bool:=match an (a=0)with|true=>aN|false=>!an (k=12)
def aq.af (s:aq)(k a:m)(b:aH):aq:={s with d:=s.d++[L s.l+20],f:=s.f++[.e (L s.d+1)],u:=s.u++[(k,a)],l:=s.l++[nm (L s.d+1) k a b]}
def aq.aw (s:aq)(b:bm):aq:=match b with|true=>s.af 12 32 (bG 96)|false=>s
structure cI (s:aq):Prop where
 a:∃c,s.d=c.map (·+20)/\i' s.l c s.u
 b:L s.f=L s.d
 lt:L s.d<800000
theorem cI.r (f:cI h){i:j}{a:m×m} (e:h.u[i]?=O a):∃p,(h.d.map hV)[i]?=O (.c (p+20+75))/\∃b,h.l[p]?=O (nm (i+1) a.1 a.2 b):=by
 refine aL f.a λb g c=>?_;have d:i<L b:=by rw[c.1];exact(cs.mp e).1
 refine⟨b[i],?_,c.2.2 i _ a (eM d) e⟩;rw[g,h4,h4,eM d];rfl
def cI.W (a:cI h):L h.d=L h.u:=by refine aL a.a λd b c=>?_;rw[b,cj,c.1]
theorem se (e:h.l[f]?=O (nm o B J a9)) (a:(al q).x 384 z=af)(b:bH [(35,x.e o),(40,.f a9),(31,.e B),(22,.e J),(46,.e 1),(0,.e (-1)),(5,.e 0)] z=O p)(c:cS p):gH (al q) (.c (f+20+75)) z (D (h.b k d I)) cS:=
 ba (show(D (h.b k d I))[f+20+75]?=_ from e) (fh a (ba b c))
theorem X1 (S:b4 q V)(a:cI h)(b:w (.e (L h.u+1)) (D ((h.af 12 32 (bG 96)).b k d I))):V (f+3) 444 [.c 63,.e 1,.f (bG 96),.e 12,.e 32] (D (h.b k d I)) w:=by refine ua (h:=h.b k d I) S a.b (kE a.lt ⋯) ?_;rw[a.W];exact b
theorem Hs (S:b4 q V)(a:cI h){b c g:m}{y:j}{s:m}(B:o=(y+1:j)) (C:h.u[y]?=O (b,s)) (E:s=0\/s=32)(z:b=7\/b=9\/b=12\/b=16)(n:(c=7\/c=9)\/c=16/\b≠12\/c=13/\b=12) (F:g=0\/∃i:j,g=(i+1:j)/\∃l,h.u[i]?=O (c,l))
 (e:w (ef b o c g (L h.u+1)).u (D ((h.aw (mI b g)).b k d I))):V (12+f) 610 [bC,.r [.e 20,.e 1,.r [.e 2,.e b,.e o],.e c,.e g]] (D (h.b k d I)) w:=by
 rcases F with rfl|⟨i,rfl,l,G⟩
 ·exact S.c4 (show f+9<=12+f by exact em (.le (.b .a (.y 9)) (.b (.y 12) .a))) (lm S ((XU z (n.elim (λa=>a.imp id .inl) λa=>ey (a.elim (λa=>.inr a.1) λa=>.inl a.1))).mpr e))
 obtain⟨p,t,p,u⟩:=a.r G;have v:∀{l A H w},wY q (V 3) (f+9) l A H w->V (12+f) l A H w:= λa=>S.c4 (show 3+(f+9)<=12+f by exact em (.le (.b .L (.b .a (.y 9))) (.b (.y 12) .a))) (np S (λr r r r a=>a) a);delta ef mI at e;rw[(show an (((i+1:j):m)=0)=aN from cL (em (.b (.Eq (.d (.b .a .r)) .K))))]at e;by_cases r:c=13
 ·subst r;obtain rfl:b=12:=n.elim (λa=>by rcases a with a|a<;>cases a) λa=>a.elim (λa=>by cases a.1) B1;exact v (XV.mpr (ba t (se u aa aa e)))
 rw[cL r]at e;by_cases x:b=12
 ·subst x;subst B;obtain⟨p,J,p,K⟩:=a.r C;refine v ((XW (n.resolve_right λa=>a.elim (λa=>a.2 aa) λa=>r a.1)).mpr (ba t (se u aa aa (ba J (se K aa aa ?_)))));rcases E with rfl|rfl<;>exact e
 ·rw[cL x]at e;exact v ((XX (z.imp id λa=>a.imp id λa=>a.resolve_left x) (n.elim (λa=>a.imp id .inl) λa=>a.elim (λa=>ey a.1) λa=>b6 a.1 r)).mpr (ba t (se u aa aa (X1 (f:=0) S a e))))
def jZ (k a T:m)(l:a3):aE:=match l with
 |.c n=>jv k a n
 |.gM x=>nq k a x
 |.d=>l1 k a
 |.b b c f=>(match f with|none=>ef k a b c T|some f=>.t (ef k a b c T) (.K 1 f))
 |.a=>.K 0 0
def ii (k:m)(l:a3):Bool:=match l with|.b _ a _=>mI k a|_=>aN
noncomputable def aq.C (s:aq)(g:Z):aq:={s with l:=s.l++g}
theorem cI.C (a:cI h):cI (h.C c):=⟨a.a.imp λb q=>⟨q.1,q.2.C⟩,a.b,a.lt⟩
theorem cI.aw (a:cI h)(d:L h.d+1<800000):cI (h.aw bs):=by
 induction bs using fD with
 |false=>exact a
 |true=>
  refine aL a.a λb c e=>⟨⟨b++[L h.l],?_,?_⟩,?_,?_⟩
  ·refine(?_:h.d++_=_);rw[c,eu];rfl
  ·refine(?_:i' (h.l++[nm (L h.d+1) 12 32 (bG 96)]) _ _);rw[(by rw[c,cj]:h.d.length=b.length)];exact e.K
  ·rw[a6,a6,a.b];rfl
  ·rw[a6];exact d
structure cY (s e:aq)(a:aO):Prop where
 b:cI e
 u:e.u=s.u++a
 l:∃g,e.l=s.l++g
 d:∃g,e.d=s.d++g
 c:e={s with d:=e.d,f:=e.f,u:=e.u,l:=e.l}
def cY.y (p:cY h am aj)(q:cY am cN dt):cY h cN (aj++dt):=
 ⟨q.b,by rw[q.u,p.u,bU],n7 p.l q.l,n7 p.d q.d,by rw[q.c,p.c]⟩
def cY.D (a:cI h):cY h h []:=⟨a,(ca _).symm,gl _,gl _,aa⟩
noncomputable def j0 (b:bm):aO:=match b with|true=>[(12,32)]|false=>[]
theorem cY.aw (a:cI h)(b:L h.d+1<800000):cY h (h.aw bs) (j0 bs):=by
 have l:=a.aw (bs:=bs) b;induction bs using fD with
 |false=>exact .D a
 |true=>exact⟨l,aa,⟨_,aa⟩,⟨_,aa⟩,aa⟩
theorem cY.C (a:cI h):cY h (h.C c) []:=⟨a.C,(ca _).symm,⟨_,aa⟩,gl _,aa⟩
theorem cI.X (a:cI h) (e:h.l[f]?=O (.y k)):cI (h.X f aZ):=⟨a.a.imp λb q=>⟨q.1,q.2.X e⟩,a.b,a.lt⟩
theorem cY.X (a:cY h am aj)(b:L h.l<=f) (e:am.l[f]?=O (.y k)):cY h (am.X f aZ) aj:=by
 refine⟨a.b.X e,a.u,?_,a.d,?_⟩
 ·refine bu a.l λg c=>⟨g.set (f-L h.l) aZ,(?_:am.l.set f aZ=_)⟩;rw[c,nH _ _ b]
 ·rw[a.c];rfl
noncomputable abbrev sf (k l a b:m):x:=.r [.e 20,.e 1,.r [.e 2,.e k,.e l],.e a,.e b]
def X2:ie iu [610] A (al q) (f+4) 1169 [bC,.r [.e 2,.e B,.e o],(a3.b J aF ab).u] (D (h.b k d I)) w=A 610 [bC,sf B o J aF] (D (h.b k d I)) w:=()
def X3:ie iu [615] A (al q) (f+5) 1169 [bC,.r [.e 2,.e J,.e o],(a3.b aF bo (O B)).u] (D (h.b k d I)) w=A 615 [bC,.r [.e 15,.e 1,sf J o aF bo,cW 1 B]] (D (h.b k d I)) w:=()
theorem X4:bM bK (al q) (ie iu [610,465] A (al q) (f+6)) 615 [bC,.r [.e 15,.e 1,sf d o J aF,cW 1 B]] c w=A 610 [bC,sf d o J aF] (c++[.y []]) λy a=>f5 a (L c) λb=>fa (L b+1)
 (A 610 [bC,cW 1 B] (a.set (L c) (.y (b++[y]))) λz a=>f5 a (L c) λb=>fa (L b+1) (A 465 [.r [.e 15,.e 1,sf d o J aF,cW 1 B],.c (L c)] (a.set (L c) (.y (b++[z]))) w)):=()
def X5:qF iu (al q) (f+8) 610 [bC,cW 1 B] (D (h.b k d I)) w↔w (cW 1 B) (D (h.b k d I)):=f3 ()
def X6:qF iu (al q) (f+8) 465 [.r [.e 15,.e 1,sf d o J aF,cW 1 B],.c 0] [.y [p,U]] w↔w (.r [.e 15,.e 1,p,U]) [.y [p,U],.y [.e 15,.e 1,p,U]]:=f3 ()
def X7:cB 8 (ef d o B J aF).u=true:=by delta ef ih;cases an (J=0)<;>cases an (B=13)<;>cases an (d=12)<;>rfl
theorem X8 (S:b4 q V)(a:cI h)(H:L h.d+1<800000){b:m}{J:j}{E:m}(CS:hW b)(K:o=(J+1:j)) (M:h.u[J]?=O (b,E)) (N:E=0\/E=32){x:a3}(OL:x≠.a)(v:fP b o (h.u.map λp=>(p.1,0)) x)
 (P:∀Q,cY h Q (j0 (ii b x))->w (jZ b o (L h.u+1) x).u (D (Q.b k d I))):V (f+24) 1169 [bC,.r [.e 2,.e b,.e o],x.u] (D (h.b k d I)) w:=by
 have A:w (jZ b o (L h.u+1) x).u (D ((h.aw (ii b x)).b k d I)):=P _ (.aw a H);induction x using iD with
 |c R=>exact S.c4 (show f+9<=f+24 by exact iE ⋯ _) (lm S ((XR CS v.1).mpr A))
 |gM R=>exact S.c4 (show f+9<=f+24 by exact iE ⋯ _) (lm S ((XS v.1).mpr A))
 |d=>exact S.c4 (show f+9<=f+24 by exact iE ⋯ _) (lm S ((XT v).mpr A))
 |a=>exact b6 aa OL
 |b n c B=>
  refine bd v λT ajl=>?_;have U:b=7\/b=9\/b=12\/b=16:=gQ T (λa=>a.2) λa=>gQ a (λa=>a.2.imp id λa=>a.imp id .inr) λa=>ey (.inl a.2);have W:(n=7\/n=9)\/n=16/\b≠12\/n=13/\b=12:=by
   rcases T with a|a|a
   ·exact .inl a.1
   ·exact .inr (.inl ⟨a.1,by rcases a.2 with e|e|e<;>rw[e]<;>decide⟩)
   ·exact ey a
  have X:c=0\/∃i:j,c=(i+1:j)/\∃B,h.u[i]?=O (n,B):=ajl.imp id λ⟨⟨i,e,s⟩,_⟩=>⟨i,e,by
   rw[h4]at s;cases z:h.u[i]?with
   |none=>rw[z]at s;injection s
   |some p=>rw[z]at s;obtain⟨l,g⟩:=p;replace s:=aY s;injection s with s;subst s;exact⟨g,aa⟩⟩
  induction B using gA with
  |none=>exact S.c4 (show 20+4<=f+24 by exact em (.le (.b (.y 20) (.y 4)) (.b .a (.y 24)))) (np S (i:=V 20) (λl l l l a=>a) ((X2 (f:=0)).mpr (Hs (f:=8) S a K M N U W X A)))
  |some B=>
   refine S.c4 (show 19+5<=f+24 by exact em (.le (.b (.y 19) (.y 5)) (.b .a (.y 24)))) (np S (i:=V 19) (λl l l l a=>a) ((X3 (f:=0)).mpr (S.e (C:=ie iu [610,465] (V 12) (al q) (0+6)) (λl l l l a=>np S (λl l l l a=>a) a) (X4.mpr (Hs (f:=0) (h:=h.C [.y []]) S a.C K M N U W X ?_)))));have G:=(cY.C (c:=[.y []]) a).y (.aw (bs:=mI b c) a.C H);have z:((h.C [.y []]).aw (mI b c)).l[L h.l]?=O (.y []):=by
    have g:(h.l++[aX.y []])[L h.l]?=O (.y []):=iC ..;cases mI b c with
    |false=>exact g
    |true=>exact(ek (cs.mp g).1).trans g
   generalize(h.C [.y []]).aw (mI b c)=t at G z;refine ki (f:=L h.l+20+75) (show(D (t.b k d I))[L h.l+20+75]?=_ from z) (fM ⋯ ?_);have C:=kr (df:=.y ([]++[(ef b o n c (L h.u+1)).u])) z;have Y:=G.X (aZ:=.y ([]++[(ef b o n c (L h.u+1)).u])) (br _) z;refine lm S ((X5 (f:=4) (h:=t.X (L h.l) (.y ([]++[(ef b o n c (L h.u+1)).u])))).mpr ?_);generalize t.X (L h.l) (.y ([]++[(ef b o n c (L h.u+1)).u]))=u at Y C;refine ki (f:=L h.l+20+75) (show(D (u.b k d I))[L h.l+20+75]?=_ from C) (fM (show 1+1<=de by decide) ?_);have Z:=Y.X (aZ:=.y ([]++[(ef b o n c (L h.u+1)).u]++[cW 1 B])) (br _) C;have F:iq (cB 8) [(ef b o n c (L h.u+1)).u,cW 1 B]=true:=by refine(?_:(match cB 8 _ with|true=>_|false=>_)=af);rw[X7];rfl
   refine XY (n:=12) S (nr 9 _ aa) (XZ F) (H:=D ((u.X (L h.l) (.y ([]++[(ef b o n c (L h.u+1)).u]++[cW 1 B]))).b k d I)) (i:=L h.l+20+75) (kr (df:=.y ([]++[(ef b o n c (L h.u+1)).u]++[cW 1 B])) C) (v:=.r [.e 15,.e 1,(ef b o n c (L h.u+1)).u,cW 1 B]) (λl y r=>AH 9 _ (show cB 9 (.r [.e 15,.e 1,(ef b o n c (L h.u+1)).u,cW 1 B])=af from F) y r)
    (lm S ((X6 (f:=4)).mpr ⟨aa,aa⟩)) (λl R r=>X0 F r) λg=>?_
   exact P ((u.X (L h.l) (.y ([]++[(ef b o n c (L h.u+1)).u]++[cW 1 B]))).C g) (by have:=Z.y (cY.C (c:=g) Z.b);rw[List.nil_append,ca]at this;exact this)
def X9:bM bK (al q) A 1176 [.c f] c w=mk c (.y []) λM c=>a' (aw q A 9) [zB,zC] [O (.c f),O M,O (.e 0),ab,ab] c (ch w):=()
abbrev AI (a:ac->Q E)(C:aQ):aS->Z->fp->Prop:= λax c w=>(ei (al a) C 13).T (.p .Lt (.s 2) (.A .W [(.s 0)])) ax c w
abbrev X' (a:ac->Q E)(C:aQ):aS->Z->bZ->Prop:= λax c w=>a' (aw a C 8) [zy,zz,zA,wn,wo] ax c w
def Ya:aw q A 9 zB ax c G=∃n,nU (AI q A) (X' q A) n ax c G:=()
def Yb:AI q A [O (.c f),N,O (.e d),Y,ag] c fF=a7 c[f]? λM=>i6 M λm=>fF (an (d<m)) c:=()
def Yc:aw q A 8 zy [O (.c f),N,O (.e d),Y,ag] c G=G .next [O (.c f),N,O (.e d),O (.e d),ag] c:=()
abbrev Ht (a:ac->Q E)(C:aQ):f4:= λv ax c w=>(ei (al a) C 13).c (.s 4) v ax c λax c=>a' (aw a C 7) [FQ] ax c w
def Yd:aw q A 8 zz [O (.c f),N,O (.e d),Y,ag] c G=a7 c[f]? λM=>i6 M λm=>js [.e d,.e m] λl=>ds (Ht q A) ⟨l,ab⟩ l [O (.c f),N,O (.e d),Y,ag] c G:=()
theorem Ye:Ht q A (.e B) [O (.c f),N,O (.e d),Y,ag] c G=a7 c[f]? λM=>gi (.e B) M λx=>ed (al q) x (.e 0) c λu=>a7 c[f]? λM=>gi (.e d) M λy=>ed (al q) y (.e 0) c λv=>
 cR u λu=>cR v λv=>bB (an (u-v<2*(B-d+1))) (G .next [O (.c f),N,O (.e d),O (.e B),O (.e B)] c) (G .next [O (.c f),N,O (.e d),Y,O (.e B)] c):=()
def Yf:aw q A 8 zA [O (.c f),N,O (.e d),O (.e o),ag] c G=bB (an (o-d<3)) (G .next [O (.c f),N,O (.e d),O (.e d),ag] c) (G .next [O (.c f),N,O (.e d),O (.e o),ag] c):=()
def Yg:aw q A 8 wn [O (.c f),O (.c z),O (.e d),O (.e o),ag] c G=iK q A z c (λM=>vD (.c f) (.e d) (.e (o+1)) c M) λc=>G .next [O (.c f),O (.c z),O (.e d),O (.e o),ag] c:=()
def Yh:aw q A 8 wo [O (.c f),N,O (.e d),O (.e o),ag] c G=G .next [O (.c f),N,O (.e (o+1)),O (.e o),ag] c:=()
def ajd:aw q A 9 zC [O (.c f),O p,N,Y,ag] c G=G (.c p) [O (.c f),O p,N,Y,ag] c:=()
noncomputable abbrev dW (p:m×m):x:=.r [.e p.1,.e p.2]
structure AJ (b:aO)(a:n aO):Prop where
 X:a.flatten=b
 W:∀r,r∈a->L r=1\/4<=L r
def qM (r:Z)(a:cd)(b:n E):Prop:=L a=L b/\∀(c i:j) l,a[c]?=O i->b[c]?=O l->r[i]?=O (.y l)
theorem qM.ab {g:n E}(h:qM c aC g) (e:c[f]?=O (.y k)):qM c (aC++[f]) (g++[k]):=by
 refine⟨by rw[a6,a6,h.1];rfl,λd i m a b=>?_⟩;rw[aiB]at a b;by_cases q:d<L aC
 ·rw[cP q]at a;rw[cP (h.1▸q)]at b;exact h.2 d i m a b
 ·rw[ce q]at a;rw[ce (h.1▸q)]at b;cases z:d-L aC with
  |succ m=>rw[z]at a;injection a
  |zero=>rw[z]at a;rw[<-h.1,z]at b;replace a:=aY a;subst a;replace b:=aY b;subst b;exact e
theorem Yi (h:f<=z)(a:z<=1000){K:E->Prop}(q:K (fT f (z-f))):js [.e f,.e z] K:=by refine fh (f0 (aU (aU h a) ⋯)) (fh (f0 (aU a ⋯)) ?_);rw[show((z:m)-f).toNat=z-f by exact s3 [_,_,_,_] [] .a .e (.Eq (.d .a) (.c (.d .l) (.d .s))) (.l (.b .e .s) .l) [1,1,-1] [1,-1,1] (lB (ck (.a .K (.c (.d .a) (.d .e))) (.le .e .a) h)) (dc (h))];exact q
def Yj (h:f<=L k)(a:L k<=1000){F:E->Prop}(q:F (fT f (L k-f))):i6 (.y k) λm=>js [.e f,.e m] F:=Yi h a q
noncomputable abbrev aT (i:j):Nat:=i+20+75
def bO (e:h.l[f]?=O aZ):(D (h.b k d I))[aT f]?=O aZ:=e
def wZ (h:aj[f]?=O cu):dD (aj.map dW) f=O (dW cu):=by show(aj.map dW)[f]?=_;rw[h4,h];rfl
theorem Yk (e:c[f]?=O (.y k)) (h:z<=aK)(a:aK<=L k)(q:w (.c (L c)) (c++[.y ((k.drop z).take (aK-z))])):vD (.c f) (.e z) (.e aK) c w:=
 ki e (fh (by rw[fu,fu];exact⟨⟨dz (ow z),dz (ov.mpr h)⟩,dz (ov.mpr a)⟩) q)
def Yl (e:c[f]?=O (.y k)) (a:fF (an (d<(L k:j))) c):AI q A [O (.c f),M,O (.e d),N,Y] c fF:=Yb.mpr (ba e a)
def Ym (s:aq)(c:aO)(q:j)(e:m)(f g:E)(h:j)(k:aS)(H:Z):Prop:=∀P:j->aS->bI,(∀(t:aq)(d:n aO)(b:cd)(a:j)(l o:be),a<=L c->d.flatten=c.take a->(∀r,r∈d->L r=1\/4<=L r)->cY s t []->L b<=a->t.l[L s.l]?=O (.y (b.map λi=>.c (aT i)))->
    qM t.l b (d.map λr=>r.map dW)->(∀i,i∈b->i≠L s.l)->P (L c-a) [O (.c (aT q)),O (.c (aT (L s.l))),O (.e a),l,o] (D (t.b f e g)))->P h k H
def Yn (s t:aq)(b:aO)(a q:j)(c:m)(d f:E)(i:j)(g:aS)(H:Z):Prop:=∀P:aS->bI,(∀(e:j)(h:be),a<=e->e<L b->P [O (.c (aT q)),O (.c (aT (L s.l))),O (.e a),O (.e e),h] (D (t.b d c f)))->P g H
theorem Yo (S:b4 q V)(z:cI h){s:j}{b:aO} (ajl:h.l[s]?=O (.y (b.map dW))) (ajm:L b<=100)
 (K:∀t o p A,cY h t []->AJ b A->t.l[o]?=O (.y (p.map λi=>.c (aT i)))->qM t.l p (A.map λr=>r.map dW)->w (.c (aT o)) (D (t.b k d I))):V (f+1) 1176 [.c (aT s)] (D (h.b k d I)) w:=by
 refine S.r (X9.mpr (hY (bx.mpr (Ya.mpr ⟨L b-0+1,?_⟩))));have ajx:∀{t:aq},cY h t []->t.l[s]?=O (.y (b.map dW)):= λ{t} G=>by refine bu G.l λg a=>?_;rw[a,ek (cs.mp ajl).1,ajl]
 refine Wp (Ym h b s d k I) ?_
  λP K=>K (h.C [.y []]) [] [] 0 ab ab (fK _) aa (λr z=>b6 z m0) (.C z) (br _) (iC ..) ⟨aa,λajn i l e=>by cases e⟩ λi z=>b6 z m0
 intro W ajo H ajy J X N;revert X;apply J;intro t A p a ajA Q Y ajp ajq G ajr R Z ajs X;have B:=ajx G;refine Yl (bO B) ?_;rw[cj];cases C:an ((a:m)<(L b:j))with
 |false=>exact bq (K t (L h.l) p A G ⟨by rw[ajp,(by have:=iF C;exact kB (ck (.le .a .e) (.le .a .e) Y) (ck (.le .a .e) (.b (.Lt (.d .e) (.d .a))) (iF C:)):a=b.length),List.take_length],ajq⟩ R Z)
 |true=>
  have T:a<L b:=by have:=dT C;exact nB.mp (dT C:)
  have U:L (b.map dW)=L b:=cj ..;refine bx.mpr (Yc.mpr (bq (bx.mpr (Yd.mpr (ba (bO B) (Yj (U▸hy T) (U▸aU ajm ⋯) ?_))))));rw[U];refine wM (fG:=⟨fT a (L b-a),ab⟩) (Yn h t b a s d k I) (λW ajo H ajA ajz J ajt N=>?_) (λajo H J=>?_) λP K=>K a Q (br _) T
  ·apply J;intro e Q u E;have c:a+W<L b:=by rw[xN];exact ah0 ajz
   refine sc (Ye.mpr (ba (bO B) (ba (wZ (eM c)) (ba (bO B) (ba (wZ (eM T)) ?_)))));exact fj (λN=>ajt _ _ λP K=>K (a+W) _ (cZ _ _) c) λN=>ajt _ _ λP K=>K e _ u E
  ·apply J;intro e Q u E;refine sc (bq (bx.mpr (Yf.mpr ?_)));have aju:∀c:j,a<=c->c<L b->(c=a\/a+3<=c)->a' (aw q (V f) 8) [wn,wo] [O (.c (aT s)),O (.c (aT (L h.l))),O (.e a),O (.e c),Q] (D (t.b k d I)) ajy:= λc g v ajv=>by
    have CS:L h.l<L t.l:=(cs.mp R).1;refine bx.mpr (Yg.mpr (n' (h:=t.b k d I) (f:=L h.l+20) R ?_));rw[(show((c:m)+1)=((c+1:j):m)from aa)];refine Yk (bO B) (j8 g) (U▸v) ?_;rw[(by rw[List.map_take,List.map_drop]:((b.map dW).drop a).take (c+1-a)=((b.drop a).take (c+1-a)).map dW)];generalize ajw:(b.drop a).take (c+1-a)=y;have OL:(t.C [.y (y.map dW)]).l[L h.l]?=O (.y (p.map λi=>.c (aT i))):=(ek CS).trans R;refine oa (h:=(t.C [.y (y.map dW)]).b k d I) (f:=L h.l+20) OL (by rw[cj];exact hB [_,_,_] [] (.lt .a (.y 1000)) (.le .e (.y 100)) (.le .a .l) (.Lt (.d .l) (.d .e)) ajm ajr (dT C:)) (bq (bx.mpr (Yh.mpr (bq (X (L b-(c+1)) _ _ (gE [_,_,_,_,_] [] (.lt .a .e) (.le .l .s) (.l (.b .a (.b .s .r)) .X) (.l (.b .e .l) .X) [1,1,1,-1] g (dc (ck (.le (.b .a .r) .e) (.lt .a .e) v)) (dc (fE (.le .a .e) (.le .a .l) (.lt .l .e) g v))) λP K=>K ((t.C [.y (y.map dW)]).X (L h.l) (.y ((p.map λi=>x.c (aT i))++[x.c (aT (L t.l))]))) (A++[y]) (p++[L t.l]) (c+1) _ _ v ?_ ?_ ((G.y (cY.C (c:=[.y (y.map dW)]) G.b)).X (br _) OL) ?_ ?_ ?_ ?_)))))
    ·rw[KY,ajp,<-ajw,show[(b.drop a).take (c+1-a)].flatten=_ from ca _,<-List.take_add,show a+(c+1-a)=c+1 by exact m6 [_,_,_] [] (.b .a .e) (.b .l .r) (.l (.b .e .a) (.b .l .r)) cc [1,-1] (dc (j8 g))]
    ·intro r F;rcases et.mp F with F|F
     ·exact ajq r F
     ·rw[cz.mp F,(by rw[<-ajw,xY,B8];exact ajv.elim (λM=>(nE (c+1-a) (L b-a)).elim (λn=>(xX n)) λn=>kB (aU (he (sJ n)) n) (lI [_,_,_,_,_,_] [] (.le .a .e) (.lt .l .s) (.l (.b .a .X) (.b .l .r)) (.l (.b .ab .X) .s) (.l .e .ab) [1,1,1,-1,-1] v (dc (j8 g)) (dc (Y)) (sJ n))) λM=>(nE (c+1-a) (L b-a)).elim (λn=>(xX n)) λn=>kB (aU (he (sJ n)) n) (lI [_,_,_,_,_,_] [] (.le .a .e) (.lt .l .s) (.l (.b .a .X) (.b .l .r)) (.l (.b .ab .X) .s) (.l .e .ab) [1,1,1,-1,-1] v (dc (j8 g)) (dc (Y)) (sJ n)):y.length=c+1-a)];exact ajv.elim (λM=>Or.inl (kB (fE (.le .a .r) (.l .e .l) (.l (.b .a .l) (.b .e .r)) M (dc (j8 g))) (g6 (.le .r .a) (.le .e .l) (.l (.b .a .e) (.b .l .r)) [1,1,-1] g (dc (j8 g))))) λM=>g6 (.K (.l .a .r) (.le (.y 4) .a)) (.le (.b .e .L) .l) (.l (.b .a .e) (.b .l .r)) [1,1,-1] M (dc (j8 g))
    ·rw[a6];show L p+1<=_;exact fE (.le (.b .a .r) (.b .e .r)) (.le .a .l) (.le .l .e) ajr g
    ·rw[eu];exact kr OL
    ·rw[eu];refine qM.ab (f:=L t.l) ⟨Z.1,λajn i l u E=>?_⟩ ?_
     ·have:=Z.2 ajn i l u E;exact(lq (sU (ajs i (jK u)))).trans ((ek (cs.mp this).1).trans this)
     ·exact(lq (jH CS)).trans (iC ..)
    ·intro i n;rcases et.mp n with n|n
     ·exact ajs i n
     ·rw[cz.mp n];exact sV CS
   exact fj (λN=>bq (aju a (br _) T (.inl aa))) λn=>bq (aju e u E (by have:=iF n;exact ck (.K (.l .a .e) (.le (.b .e .L) .a)) (.b (.Lt (.c (.d .a) (.d .e)) .L)) (iF n:)))
def gm (a:E)(b:x)(K:E->Prop):Prop:=fa (L a+1) (K (a++[b]))
def j1 (k:m):Prop:=k=7\/k=9\/k=8\/k=10\/k=4\/k=2\/k=16\/k=17\/k=18
def iL (k:m):Bool:=an (fQ k=9\/fQ k=10)
def iv (k l a:m):aE:=match !an (a=0)with|true=>.q (fQ k) 90 (fd k (.h k l)) (.p (fQ k) (.e a))|false=>fd k (.h k l)
def kt (k l a:m):aE:=match iL k with|true=>.conv 7 (iv k l a) 1|false=>iv k l a
abbrev ij (v:x)(i:j)(a:m)(b c d e f g h k:be):aS:=[O bC,O v,O (.c i),O (.e a),b,c,d,e,f,g,h,k]
def Yp:bM bK (al q) A 1183 [bC,p,.c z,.e bo] c w=a' (aw q A 9) F7 (ij p z bo ab ab ab ab ab ab ab ab) c (ch w):=()
def Yq:aw q A 9 FR (ij p z bo M N Y ag ah ao aJ bc) c G=a7 c[z]? λo=>gi (.e 0) o λx=>ed (al q) x (.e 0) c λy=>G .next (ij p z bo (O y) N Y ag ah ao aJ bc) c:=()
theorem Yr:aw q A 9 FS (ij p z bo M N Y ag ah ao aJ bc) c G=a7 c[z]? λo=>i6 o λm=>a7 c[z]? λo=>gi (.e (m-1)) o λx=>ed (al q) x (.e 0) c λy=>G .next (ij p z bo M (O y) Y ag ah ao aJ bc) c:=()
def Ys:aw q A 9 FT (ij p z bo M N Y ag ah ao aJ bc) c G=mk c (.h []) λx c=>G .next (ij p z bo M N (O x) ag ah ao aJ bc) c:=()
abbrev AK (a:ac->Q E)(C:aQ):f4:= λp L c w=>(ei (al a) C 13).c (.r [.s 7,.s 8]) p L c λL c=>a' (aw a C 8) [FU] L c w
def Yt:aw q A 9 FV (ij p z bo M N Y ag ah ao aJ bc) c G=a7 c[z]? λo=>rK z o λt=>ds (AK q A) t t.a (ij p z bo M N Y ag ah ao aJ bc) c G:=()
theorem Yu:AK q A (dW cu) (ij p z bo M N (O (.c aK)) ag ah ao aJ bc) c G=a7 c[aK]? λo=>yu (.e cu.1) c o λb=>bB (!b) (a7 c[aK]? λo=>yz (.e cu.1) (.e cu.2) c aK o λc=>G .next (ij p z bo M N (O (.c aK)) (O (.e cu.1)) (O (.e cu.2)) ao aJ bc) c)
 (G .next (ij p z bo M N (O (.c aK)) (O (.e cu.1)) (O (.e cu.2)) ao aJ bc) c):=()
def Yv:aw q A 9 FW (ij p z bo M N Y ag ah ao aJ bc) c G=mk c (.y []) λx c=>G .next (ij p z bo M N Y ag ah (O x) aJ bc) c:=()
abbrev Hu (a:ac->Q E)(C:aQ):f4:= λp L c w=>(ei (al a) C 13).c (.s 7) p L c λL c=>a' (aw a C 8) [FX] L c w
def Yw:aw q A 9 FY (ij p z bo (O (.e J)) (O (.e aF)) Y ag ah ao aJ bc) c G=js [.e J,.e (aF+1)] λB=>ds (Hu q A) ⟨B,ab⟩ B (ij p z bo (O (.e J)) (O (.e aF)) Y ag ah ao aJ bc) c G:=()
theorem Yx:Hu q A (.e d) (ij p z bo M N (O (.c f)) ag ah (O (.c aK)) aJ bc) c G=iK q A aK c (λa=>a7 (hD (al q) (.c f) .b c) λb=>jq (al q) A b (.c f) [.e d,.e bo] c a) λc=>G .next (ij p z bo M N (O (.c f)) (O (.e d)) ah (O (.c aK)) aJ bc) c:=()
def AL (s:aq)(b:E)(a k:m)(B:j)(Q:bg)(o:E)(w:bm)(e:aE):Prop:=a7 (nT (D (s.b o (a+1) b)) (.c B)) λc=>gm o (.r [.e 23,(match w with|true=>aE.conv 7 e 1|false=>e).u,.r c]) λd=>gm d (.r [.e 20,.e (a+1)]) λf=>Q .C (D (s.b f (a+1) b))
def w0 (s:aq)(a:E)(b k l c:m)(B:j)(Q:bg)(o:E)(w:bm):Prop:=bB (!an (c=0)) (AL s a b k B Q o w (.q (fQ k) 90 (fd k (.h k l)) (.p (fQ k) (.e c)))) (AL s a b k B Q o w (fd k (.h k l)))
theorem Yy (a:j1 o){g:be}:a' (aw q (ig q (f+9)) 9) [FZ,F0,F1,F2,F3,F4,F5,F6] (ij (.r [.e 2,.e o,.e B]) z bo (O (.e J)) (O (.e aF)) g ag ah (O (.c aK)) ab ab) (D (h.b k d I)) (ch w)=
 (match iL o with
 |true=>gm k (S.b (.q 1 91 (fd o (.h o B)) (.p (fQ o) (.e J))) 1 (d+1)).u λb=>gm b (S.b (.q 1 93 (fd o (.h o B)) (.p (fQ o) (.e aF))) 1 (d+1)).u λc=>w0 h I d o B J aK w c af
 |false=>w0 h I d o B J aK w k aN):=by
 rcases a with rfl|rfl|rfl|rfl|rfl|rfl|rfl|rfl|rfl
 ·rfl'
 ·rfl'
 ·rfl'
 ·rfl'
 ·rfl'
 ·rfl'
 ·rfl'
 ·rfl'
 ·rfl'
def ha (a:aO)(x b:m):Int:=a.rec b λp c f=>if p.1=x then p.2 else f
def gc (b:aO)(c x:m)(n:j):bk:=n.rec (motive:= λa=>m->bk) (λa=>[]) (λa f x=>ha b x c::f (x+1)) x
def gO (k l b c a:m)(d:bk):n S:=(match iL k with
 |true=>[.b (.q 1 91 (fd k (.h k l)) (.p (fQ k) (.e b))) 1 a,.b (.q 1 93 (fd k (.h k l)) (.p (fQ k) (.e c))) 1 a]
 |false=>[])++[.d (kt k l b) d,.a a]
noncomputable abbrev oc (p:m×m):m×x:=(p.1,.e p.2)
theorem Yz:(bH (aj.map oc) d).getD (.e o)=.e (ha aj d o):=by
 induction aj with
 |nil=>rfl
 |cons p r a=>
  show(if p.1=d then O (x.e p.2)else bH (r.map oc) d).getD (.e o)=.e (if p.1=d then p.2 else ha r d o);by_cases e:p.1=d
  ·rw[cP e,cP e];rfl
  ·rw[ce e,ce e];exact a
theorem YD (h:∀x,x∈aj->x.1<cu.1):bH (aj.map oc) cu.1=ab/\bF (aj.map oc) cu.1 (.e cu.2)=(aj++[cu]).map oc:=by
 induction aj with
 |nil=>exact⟨aa,aa⟩
 |cons a r c=>have b:¬a.1=cu.1:=JQ (h a (db ..));exact bd (c λx d=>h x (dy _ d)) λd e=>⟨(ce b).trans d,(ce b).trans (cp _ e)⟩
theorem i'.e (h:i' c aC aj) (e:c[f]?=O (.h aI)):i' (c.set f aZ) aC aj:=
 ⟨h.1,h.2.1,λk b d g i=>(h.2.2 k b d g i).imp λl a=>(sB (by rintro rfl;rw[e]at a;replace a:=aY a;injection a)).trans a⟩
theorem cY.e (a:cY h am aj)(b:L h.l<=f) (e:am.l[f]?=O (.h aI)):cY h (am.X f aZ) aj:=by
 refine⟨⟨a.b.a.imp λc q=>⟨q.1,q.2.e e⟩,a.b.b,a.b.lt⟩,a.u,?_,a.d,?_⟩
 ·refine bu a.l λg c=>⟨g.set (f-L h.l) aZ,?_⟩;show am.l.set f aZ=_;rw[c,nH _ _ b]
 ·show am.X f aZ=_;rw[a.c];rfl
theorem YO:∀{a:m},gc aj d a (f+1)=gc aj d a f++[ha aj (a+f) d]:=by
 induction f with
 |zero=>intro a;show[ha aj a d]=[ha aj (a+((0:j):m)) d];rw[show a+((0:j):m)=a from jg a]
 |succ f b=>intro a;show ha aj a d::gc aj d (a+1) (f+1)=ha aj a d::(gc aj d (a+1) f++_);rw[b,show a+((f+1:j):m)=a+1+f by exact mi [_] [_] (.b .a (.d (.b .a .r))) (.b (.b .a .r) (.d .a))]
def YZ (a:d.natAbs<=10^12)(b:o.natAbs<=10^12){K:E->Prop}(q:K (fT d (o-d).toNat)):js [.e d,.e o] K:=
 fh (f0 a) (fh (f0 b) q)
def Hv (h:cS (.e cu.1)):ed (al q) (dW cu) (.e 0) c cS:=h
def Y0 (h:cS ((bH aI d).getD p)):DZ [.e d,p] (.h aI) cS:=h
def hZ (h:L k<900000)(a:io (k++[p])):gm k p io:=fM (aU h ⋯) a
def AM:L (gc a J d f)=f:=by
 induction f generalizing d with
 |zero=>rfl
 |succ f a=>exact cp (·+1) a
def Y1 (s:aq)(d:aO)(q:j)(k l e f a b:m)(g h:E)(r:aO)(i:aS)(H:Z):Prop:=∀P:aS->bI,(∀(t:aq)(c:aO)(n o:be),c++r=d->cY s t []->t.l[L s.l]?=O (.h (c.map oc))->
    P (ij (.r [.e 2,.e k,.e l]) (aT q) e (O (.e a)) (O (.e b)) (O (.c (aT (L s.l)))) n o ab ab ab) (D (t.b g f h)))->P i H
def Y2 (s t:aq)(c:aO)(q:j)(k l d e a b:m)(f g:E)(h:j)(i:aS)(H:Z):Prop:=∀P:aS->bI,(∀(u:aq)(n o:be),cY s u []->u.l[L s.l]?=O (.h (c.map oc))->u.l[L t.l]?=O (.y ((gc c d a h).map .e))->
    P (ij (.r [.e 2,.e k,.e l]) (aT q) d (O (.e a)) (O (.e b)) (O (.c (aT (L s.l)))) n o (O (.c (aT (L t.l)))) ab ab) (D (u.b f e g)))->P i H
theorem Y3 (ajm:b4 q V)(X:cI h){v:j}{f:aO}{c i:m×m} (N:h.l[v]?=O (.y (f.map dW))) (ajs:L f<=100) (ajn:f[0]?=O c) (ajt:f[L f-1]?=O i) (aju:f.Pairwise λa b=>a.1<b.1)
 (r:c.1<=i.1)(ajv:i.1-c.1<=200)(ajw:c.1.natAbs<=10^11)(ajx:i.1.natAbs<=10^11)(l:L k<1000)(ajy:j1 o)
 (K:∀t,cY h t []->w .C (D (t.b (k++(gO o B c.1 i.1 (d+1) (gc f J c.1 (i.1+1-c.1).toNat)).map S.u) (d+1) I))):
 V 10 1183 [bC,.r [.e 2,.e o,.e B],.c (aT v),.e J] (D (h.b k d I)) w:=by
 have ajz:0<L f:=(cs.mp ajn).1;have ajA:dD (f.map dW) ((L (f.map dW):m)-1)=O (dW i):=by rw[(cj ..),show((L f:m)-1)=((L f-1:j):m) by exact CQ [_,_] [] (.c (.d .a) .r) (.d .e) (.l (.b .e .r) .a) [1,-1] cc (dc (ec (.le .r .a) (.lt .K .a) ajz))];exact wZ ajt
 refine ajm.e (C:=ig q (0+9)) (λQ Q Q Q X=>lm ajm X) (Yp.mpr (bx.mpr (Yq.mpr (ba (bO N) (ba (wZ ajn) (Hv (bq (bx.mpr (Yr.mpr (ba (bO N) (ba (bO N) (ba ajA (Hv (bq (bx.mpr (Ys.mpr (hY (bq (bx.mpr (Yt.mpr ?_))))))))))))))))))));have ajo:cY h (h.C [.h []]) []:=.C X;have Y:∀{t:aq},cY h t []->t.l[v]?=O (.y (f.map dW)):= λ{t} G=>by refine bu G.l λg e=>?_;rw[e,ek (cs.mp N).1,N]
 refine ba (bO (Y ajo)) ?_;show ds (AK q (ig q (0+9))) ⟨f.map dW,O (aT v)⟩ (f.map dW) _ _ _;refine n6 (fG:=⟨f.map dW,O (aT v)⟩) (Y1 h f v o B J d c.1 i.1 k I) (λp r Z H ajB y CS Q=>?_) (λZ H y=>?_) λP K=>K (h.C [.h []]) [] ab ab aa ajo (iC ..)
 ·apply y;intro t n T U s G z
  ·refine⟨bO (Y G),Yu.mpr (ba (bO z) (bd (YD (λx e=>(Cw.mp (s▸aju)).2.2 x e p (db ..))) λe g=>?_))⟩;show bB (!(bH (n.map oc) p.1).isSome) _ _;rw[e];refine ba (bO z) (fM ?_ ?_)
   ·rw[cj];exact aU (gy (aU (by rw[<-s,a6];exact cZ _ _:n.length<=f.length) ajs)) ⋯
   ·rw[g];exact CS _ _ λP K=>K (t.X (L h.l) (.h ((n++[p]).map oc))) (n++[p]) _ _ (by rw[bU];exact s) (G.e (br _) z) (kr z)
 ·apply y;intro t n T U s G z;rw[ca]at s;subst s;refine⟨bO (Y G),bq (bx.mpr (Yv.mpr (hY (bq (bx.mpr (Yw.mpr ?_))))))⟩;have OL:L h.l<L t.l:=(cs.mp z).1;refine YZ (aU ajw ⋯) (aU (Int.natAbs_add_le ..) (aU (vg ajx 1) ⋯)) ?_;refine wM (fG:=⟨fT c.1 (i.1+1-c.1).toNat,ab⟩) (Y2 h t n v o B J d c.1 i.1 k I) (λajp Z H ajB s y CS Q=>?_) (λZ H y=>?_)
   λP K=>K (t.C [.y []]) T U (G.y (cY.C (c:=[.y []]) G.b)) ((ek OL).trans z) (iC ..)
  ·apply y;intro u T U ajl W F;refine sc (Yx.mpr (n' (h:=u.b k d I) (f:=L t.l+20) F ?_));refine ba (bW:=i5.b) (by show(D (u.b k d I))[aT (L h.l)]?.bind _=_;rw[bO W];rfl) (ba (bO W) ?_)
   refine Y0 ?_;rw[Yz];refine oa (h:=u.b k d I) (f:=L t.l+20) F (by rw[cj,AM];exact Lj s (k9 (.a (.c (.b .a .r) .e) (.y 1000)) (.a (.c .a .e) (.y 200)) ajv)) (CS _ _ λP K=>K (u.X (L t.l) (.y ((gc n J c.1 ajp).map .e++[.e (ha n (c.1+ajp) J)]))) _ _ (ajl.X (hy OL) F) ((lq (sV OL)).trans W) ?_);rw[YO,eu];exact kr F
  ·apply y;intro u T U ajl W F;refine sc (bq ((Yy ajy).mpr ?_));have ajq:∀(g:E)(x:bm)(e:aE),L g<2000->(∀A,A=g++[(S.d (match x with|true=>aE.conv 7 e 1|false=>e) (gc n J c.1 (i.1+1-c.1).toNat)).u,(S.a (d+1)).u]->w .C (D (u.b A (d+1) I)))->AL u I d o (aT (L t.l)) w g x e:= λg x e l C=>
    ba (wQ (h:=u.b g (d+1) I) (f:=L t.l+20) F) (hZ (kE l ⋯) (hZ (by rw[a6];show L g+1<_;exact ec (.lt (.b .a .r) (.y 900000)) (.lt .a (.y 2000)) l) (C _ (by rw[bU];rfl))))
   have ajr:∀(g:E)(x:bm),L g<2000->x=iL o->(∀A,A=g++[(S.d (kt o B c.1) (gc n J c.1 (i.1+1-c.1).toNat)).u,(S.a (d+1)).u]->w .C (D (u.b A (d+1) I)))->w0 u I d o B c.1 (aT (L t.l)) w g x:= λg x l M C=>by
    subst M;unfold kt iv at C;unfold w0;cases R:!an (c.1=0)with
    |true=>rw[R]at C;exact ajq _ _ _ l C
    |false=>rw[R]at C;exact ajq _ _ _ l C
   have R:=K u ajl;unfold gO at R;cases M:iL o with
   |true=>rw[M]at R;refine hZ (kE l ⋯) (hZ (by rw[a6];show L k+1<_;exact ec (.lt (.b .a .r) (.y 900000)) (.lt .a (.y 1000)) l) (ajr _ _ (by rw[a6,a6];show L k+1+1<_;exact ec (.lt (.b (.b .a .r) .r) (.y 2000)) (.lt .a (.y 1000)) l) M.symm λA e=>?_));rw[e,bU,bU];exact R
   |false=>rw[M]at R;exact ajr _ _ (kE l ⋯) M.symm λA e=>by rw[e];exact R
abbrev j2 (r:a3×m):x:=.r [r.1.u,.e r.2]
def Y4 (a:hW o):ig q (f+8) 1141 [bC,.e o] (D (h.b k d I)) w↔w (.e (fQ o)) (D (h.b k d I)):=by rcases a with rfl|rfl|rfl|rfl|rfl|rfl|rfl|rfl|rfl|rfl|rfl|rfl|rfl<;>exact f3 ()
abbrev kR (v:x)(i:j)(a b:be):aS:=[O bC,O v,O (.c i),a,b]
def Y5:bM bK (al q) A 1190 [bC,p,.c z] c w=a' (aw q A 9) Gb (kR p z ab ab) c (ch w):=()
theorem Y6:aw q A 9 F8 (kR (.r [.e 2,.e o,.e B]) z M N) c G=A 1141 [bC,.e o] c λa c=>cR a λa=>bB (an (a<0)) (G (.c (.d aN)) (kR (.r [.e 2,.e o,.e B]) z M N) c) (G .next (kR (.r [.e 2,.e o,.e B]) z M N) c):=()
abbrev Hw (a:ac->Q E)(C:aQ):f4:= λp L c w=>(ei (al a) C 13).c (.r [.s 3,.s 4]) p L c λL c=>a' (aw a C 8) [F9] L c w
def Y7:aw q A 9 F' (kR p z M N) c G=a7 c[z]? λo=>rK z o λt=>ds (Hw q A) t t.a (kR p z M N) c G:=()
def Y8:Hw q A (.r [U,aM]) (kR p z M N) c G=ed (al q) U (.e 0) c λa=>dg c a (.e 1) λb=>bB (!b) (G (.c (.d aN)) (kR p z (O U) (O aM)) c) (G .next (kR p z (O U) (O aM)) c):=()
def Y9:aw q A 9 Ga (kR p z M N) c G=G (.c (.d af)) (kR p z M N) c:=()
abbrev eI (v:x)(i:j)(a:m)(b c d e f g:be):aS:=[O bC,O v,O (.c i),O (.e a),b,c,d,e,f,g]
def Y':bM bK (al q) A 1195 [bC,p,.c z,.e J] c w=a' (aw q A 9) Gf (eI p z J ab ab ab ab ab ab) c (ch w):=()
def Za:aw q A 9 Gc (eI p z J N Y ag ah ao aJ) c G=mk c (.h []) λU c=>G .next (eI p z J (O U) Y ag ah ao aJ) c:=()
theorem Zb:aw q A 9 Ge (eI p z J N Y ag ah ao aJ) c G=A 1190 [bC,p,.c z] c λb c=>a7 (li c b) λb=>bB b (a' (aw q A 8) [zD,zG] (eI p z J N Y ag ah ao aJ) c G) (G .next (eI p z J N Y ag ah ao aJ) c):=()
abbrev Hx (a:ac->Q E)(C:aQ):x->Z->(be->bI)->Prop:=ni (ei (al a) C 11) (.r [.bz (.s 0) (.d (.e 1)),.s 1]) (.r [.s 0,.s 1]) [] [ab,ab]
theorem Zc:aw q A 8 zD (eI p z J N Y ag ah ao aJ) c G=a7 c[z]? λo=>rK z o λt=>hn (Hx q A) t (L c) t.a (c++[.y []]) λa=>a7 a[L c]? λo=>oZ a o λU c=>G .next (eI p z J N Y ag (O U) ao aJ) c:=()
def Zd:Hx q A (.r [U,aM]) c ku=ed (al q) U (.e 1) c λy=>ku (O (.r [y,aM])) c:=()
abbrev AN (a:ac->Q E)(C:aQ):f4:= λp L c w=>(ei (al a) C 13).c (.s 8) p L c λL c=>a' (aw a C 7) [wp] L c w
def Ze:aw q A 8 zG (eI p z J N Y ag (O U) ao aJ) c G=A 1176 [U] c λy c=>kk c y λt=>ds (AN q A) t t.a (eI p z J N Y ag (O U) ao aJ) c G:=()
def Zf:AN q A U (eI p z J N Y ag ah ao aJ) c G=a' (aw q A 7) [wp] (eI p z J N Y ag ah (O U) aJ) c G:=()
theorem Zg:aw q A 7 wp (eI p z J N Y ag ah (O (.c bf)) aJ) c G=a7 c[bf]? λo=>i6 o λm=>bB (an (1<m)) (a' (aw q A 6) [zE,zF] (eI p z J N Y ag ah (O (.c bf)) aJ) c G) (G .next (eI p z J N Y ag ah (O (.c bf)) aJ) c):=()
def Zh:aw q A 6 zE (eI p z J N Y ag ah (O (.c bf)) aJ) c G=A 1183 [bC,p,.c bf,.e J] c λa c=>G .next (eI p z J N Y ag ah (O (.c bf)) aJ) c:=()
abbrev AO (a:ac->Q E)(C:aQ):f4:= λp L c w=>(ei (al a) C 13).c (.r [.s 9,.s 6]) p L c λL c=>a' (aw a C 5) [Gd] L c w
def Zi:aw q A 6 zF (eI p z J N Y ag ah (O (.c bf)) aJ) c G=a7 c[bf]? λo=>rK bf o λt=>ds (AO q A) t t.a (eI p z J N Y ag ah (O (.c bf)) aJ) c G:=()
def Zj:AO q A (dW cu) (eI p z J (O (.c aK)) Y ag ah ao aJ) c G=a7 c[aK]? λo=>yz (.e cu.1) (.e 1) c aK o λc=>G .next (eI p z J (O (.c aK)) Y (O (.e cu.2)) ah ao (O (.e cu.1))) c:=()
abbrev AP (a:ac->Q E)(C:aQ):f4:= λp L c w=>(ei (al a) C 13).c (.r [.s 5,.s 6]) p L c λL c=>a' (aw a C 8) [wq] L c w
def Zk:aw q A 9 wr (eI p z J N Y ag ah ao aJ) c G=a7 c[z]? λo=>rK z o λt=>ds (AP q A) t t.a (eI p z J N Y ag ah ao aJ) c G:=()
def Zl:AP q A (.r [U,aM]) (eI p z J N Y ag ah ao aJ) c G=a' (aw q A 8) [wq] (eI p z J N (O U) (O aM) ah ao aJ) c G:=()
def w1 (C:aQ)(v a g:x)(H:Z)(K:bI):Prop:=C 1169 [bC,v,a] H λy H=>C 904 [bC,y,.e 1,g] H λb H=>K H
theorem Zm:aw q A 8 wq (eI p z J (O (.c aK)) (O U) (O aM) ah ao aJ) c G=ed (al q) U (.e 0) c λa=>dg c a (.e 1) λb=>bB (!b) (w1 A p U aM c λc=>G .next (eI p z J (O (.c aK)) (O U) (O aM) ah ao aJ) c)
 (ed (al q) U (.e 1) c λy=>a7 c[aK]? λo=>yu y c o λb=>bB (!b) (w1 A p U aM c λc=>G .next (eI p z J (O (.c aK)) (O U) (O aM) ah ao aJ) c) (G .next (eI p z J (O (.c aK)) (O U) (O aM) ah ao aJ) c)):=()
variable{bP nw:aE}{ai dY xt:n S}{eX BC xy:S}{fk xu:n (a3×m)}{fR:n aX}{hT:x->Q lF}{gI:bm->Prop}{o5:lF}{qa:n lF}{uv:aE->Prop}
theorem Zn (a:ig q (f+12) 904 [bC,bP.u,.e 1,.e J] (D (h.b k d I)) w=gm k (S.b bP 1 J).u λo=>w .C (D (h.b o d I)))(b:L k<2000)(c:w .C (D (h.b (k++[(S.b bP 1 J).u]) d I))):ig q (f+12) 904 [bC,bP.u,.e 1,.e J] (D (h.b k d I)) w:=
 a.mpr (hZ (kE b ⋯) c)
theorem Zo (x:a3):ig q (f+12) 904 [bC,(jZ o B aF x).u,.e 1,.e J] (D (h.b k d I)) w=gm k (S.b (jZ o B aF x) 1 J).u λa=>w .C (D (h.b a d I)):=by
 induction x using iD with
 |c a=>
  refine(?_:ig q (f+12) 904 [bC,(jv o B a).u,.e 1,.e J] _ _=gm k (S.b (jv o B a) 1 J).u _);delta jv fd;cases an (o=19)with
  |true=>rfl'
  |false=>cases an (o=20)with
   |true=>rfl'
   |false=>cases an (o=12)with
    |true=>cases an (a< -2147483648\/2147483647<a)with
     |true=>rfl'
     |false=>rfl'
    |false=>cases an (o=fQ o)with
     |true=>rfl'
     |false=>rfl'
 |gM a=>
  refine(?_:ig q (f+12) 904 [bC,(nq o B a).u,.e 1,.e J] _ _=gm k (S.b (nq o B a) 1 J).u _);delta nq;cases an (o=13)with
  |true=>rfl'
  |false=>rfl'
 |d=>
  refine(?_:ig q (f+12) 904 [bC,(l1 o B).u,.e 1,.e J] _ _=gm k (S.b (l1 o B) 1 J).u _);delta l1;cases an (o=12\/o=13)with
  |true=>rfl'
  |false=>rfl'
 |a=>rfl'
 |b b c e=>
  induction e using gA with
  |none=>refine(?_:ig q (f+12) 904 [bC,(ef o B b c aF).u,.e 1,.e J] _ _=gm k (S.b (ef o B b c aF) 1 J).u _);delta ef ih;cases an (c=0)<;>cases an (b=13)<;>cases an (o=12)<;>rfl'
  |some e=>refine(?_:ig q (f+12) 904 [bC,(aE.t (ef o B b c aF) (.K 1 e)).u,.e 1,.e J] _ _=gm k (S.b (.t (ef o B b c aF) (.K 1 e)) 1 J).u _);delta ef ih;cases an (c=0)<;>cases an (b=13)<;>cases an (o=12)<;>rfl'
def iw (k l:m)(a:j)(c:n (a3×m)):n S:=c.rec (motive:= λb=>j->n S) (λb=>[]) (λr b f a=>.b (jZ k l ((a:m)+1) r.1) 1 r.2::f (a+L (j0 (ii k r.1)))) a
def l2 (k:m)(a:n (a3×m)):aO:=a.rec [] λr b f=>j0 (ii k r.1)++f
noncomputable def dX (r:aO):Int:=match r with|[]=>0|p::_=>p.1
def fA (r:aO):Int:=r.rec 0 λp t f=>match t with|[]=>p.1|_::_=>f
def eC (k l c a:m)(d:n aO):n S:=d.rec (motive:= λb=>m->n S) (λb=>[]) (λr b f a=>match an (1<L r)with
    |true=>gO k l (dX r) (fA r) (a+1) (gc r c (dX r) (fA r+1-dX r).toNat)++f (a+1)
    |false=>f a) a
noncomputable def es (a:n aO):n aO:=a.filter λr=>an (1<L r)
noncomputable def hJ (a:bk)(b:n (a3×m)):n (a3×m):=b.filter λr=>match r.1 with|.c c=>!a.contains c|_=>af
structure pu (k l h:m)(i:j)(d:n (a3×m))(f o:m)(a:aO)(c:n S):Prop where
 C:∃b e,o=f+L (es b)/\e=(es b).flatten.map (·.1)/\a=l2 k (hJ e d)/\c=eC k l h f b++iw k l i (hJ e d)/\
  (b=[] \/j1 k/\∃g:aO,d=g.map (λp=>(a3.c p.1,p.2))/\AJ g b)
theorem Zp (a:hW o)(h:¬fQ o<0):j1 o:=by rcases a with rfl|rfl|rfl|rfl|rfl|rfl|rfl|rfl|rfl|rfl|rfl|rfl|rfl<;>first|exact .inl aa|exact .inr (.inl aa)|exact ey (.inl aa)|exact mj (.inl aa)|exact nM (.inl aa)|exact rv (.inl aa)|exact pZ (.inl aa)|exact rx (.inl aa)|exact s5 aa|exact b6 ⋯ h
def w2 (x:a3):Prop:=(∃m,x=.c m)\/∃m,x=.gM m
def Zq (c:n (a3×m))(v:x)(q:j)(d:Z)(r:n (a3×m))(L:aS)(H:Z):Prop:=∀P:aS->bI,(∀(a:n (a3×m))(e f:be),a++r=c->(∀b,b∈a->w2 b.1)->P (kR v q e f) d)->P L H
theorem Zr (S:b4 q V){i:j}{v:x}{s:n (a3×m)}(Q:v=.r [.e 2,.e o,.e B])(F:hW o) (y:h.l[i]?=O (.y (s.map j2))) (K:∀b,(b=af->j1 o/\∀r,r∈s->w2 r.1)->w (.d b) (D (h.b k d I))):
 V 9 1190 [bC,v,.c (aT i)] (D (h.b k d I)) w:=by
 subst Q;refine S.r (Y5.mpr (bx.mpr (Y6.mpr (lm S ((Y4 (f:=0) F).mpr (fj (λR=>K aN λl=>by injection l) λe=>?_))))))
 ·refine bq (bx.mpr (Y7.mpr (ba (bO y) (n6 (fG:=⟨s.map j2,O (aT i)⟩) (Zq s (.r [.e 2,.e o,.e B]) (aT i) (D (h.b k d I))) (λp r L H G J T U=>?_) (λL H J=>?_) λP K=>K [] ab ab aa λt l=>b6 l m0))))
  ·apply J;intro M a c u z
   ·refine⟨bO y,Y8.mpr ?_⟩;have A:∀a c,G (.c (.d aN)) (kR (.r [.e 2,.e o,.e B]) (aT i) a c) (D (h.b k d I)):= λa c=>U _ _ _ (K aN λl=>by injection l);have N:w2 p.1->∀a c,G .next (kR (.r [.e 2,.e o,.e B]) (aT i) a c) (D (h.b k d I)):= λW a c=>T _ _ λP K=>K (M++[p]) a c (by rw[bU];exact u) λt C=>(et.mp C).elim (z t) λC=>cz.mp C▸W;obtain⟨t,g⟩:=p;induction t using iD with
    |c E=>exact N (.inl ⟨E,aa⟩) _ _
    |gM E=>exact N (.inr ⟨E,aa⟩) _ _
    |a=>exact A _ _
    |d=>exact A _ _
    |b f f f=>exact A _ _
  ·apply J;intro M a c u z;rw[ca]at u;subst u;exact⟨bO y,bq (bx.mpr (Y9.mpr (K af λR=>⟨Zp F (iF e),z⟩)))⟩
noncomputable abbrev eV (a:aO):aO:=a.map λp=>(p.1,0)
def iM (G:cY h am aj){i:j}{o:aX} (e:h.l[i]?=O o):am.l[i]?=O o:=by refine bu G.l λg a=>?_;rw[a,ek (cs.mp e).1,e]
def Hy:L (j0 bs)<=1:=by induction bs using fD<;>first|exact br _|exact fK _
theorem Zs (a:b4 q V)(e:cI h)(i:L h.d+1<800000){c:j}{b g:m}(l:hW o)(n:B=(c+1:j)) (p:h.u[c]?=O (o,b)) (r:b=0\/b=32){x:a3}(s:x≠.a)(u:fP o B (eV h.u) x)(v:L k<2000){K:bI}
 (w:∀t,cY h t (j0 (ii o x))->K (D (t.b (k++[(S.b (jZ o B (L h.u+1) x) 1 g).u]) d I))):w1 (V (f+24)) (.r [.e 2,.e o,.e B]) x.u (.e g) (D (h.b k d I)) K:=
 X8 (f:=f) a e i l n p r s u λt G=>a.c4 (show 0+12<=f+24 by exact em (.le (.b .K (.y 12)) (.b .a (.y 24)))) (lm a (Zn (f:=0) (Zo x) v (w t G)))
def Zt (s:aq)(d:n (a3×m))(c:bk)(q b:j)(k l e f:m)(g h:E)(i p u:be)(r:n (a3×m))(v:aS)(H:Z):Prop:=∀P:aS->bI,(∀(t:aq)(o:E)(a:aO)(w y:be),(∀x,x∈r->x∈d)->cY s t a->L o+L r<2000->L t.d+L r+1<800000->
    a++l2 k (hJ c r)=l2 k (hJ c d)->o++(iw k l (L t.u) (hJ c r)).map S.u=g++(iw k l (L s.u) (hJ c d)).map S.u->P (eI (.r [.e 2,.e k,.e l]) (aT q) e (O (.c (aT b))) w y i p u) (D (t.b o f h)))->P v H
theorem Zu (aju:b4 q V){ajl v b:j}{N:m}{c:n (a3×m)}{l:bk}{Q:b2}(ajv:hW o)(ajw:B=(ajl+1:j))(ajx:N=0\/N=32)(ajp:∀r,r∈c->r.1≠.a)
 (ajy:∀w,(bH Q w).isSome=l.contains w)(ajz:nS Q=af\/∀r,r∈c->∀x,r.1≠.gM x){R T U W X:be}
 (F:cI h) (ajq:h.l[v]?=O (.y (c.map j2))) (ajr:h.l[b]?=O (.h Q)) (ajs:h.u[ajl]?=O (o,N)) (ajA:L h.d+L c+1<800000)(ajB:L k+L c<2000)(ajC:∀r,r∈c->fP o B (eV h.u) r.1)
 (ajD:∀t M,cY h t (l2 o (hJ l c))->G .next M (D (t.b (k++(iw o B (L h.u) (hJ l c)).map S.u) d I))):
 ds (AP q (V (f+24))) ⟨c.map j2,O (aT v)⟩ (c.map j2) (eI (.r [.e 2,.e o,.e B]) (aT v) J (O (.c (aT b))) R T U W X) (D (h.b k d I)) G:=by
 refine n6 (fG:=⟨c.map j2,O (aT v)⟩) (Zt h c l v b o B J d k I U W X) (λp r M H ajm ajn ajt ajE=>?_) (λM H ajn=>?_)
  λP K=>K h k [] R T (λajE F=>F) (.D F) ajB ajA aa aa
 ·apply ajn;intro t s a R T Y i z A C E
  ·obtain⟨x,g⟩:=p;have Z:=Y (x,g) (db ..);have z:L s+(L r+1)<2000:=z;have A:L t.d+(L r+1)+1<800000:=A;refine⟨bO (iM i ajq),Zl.mpr (bx.mpr (Zm.mpr ?_))⟩;have CS:hJ l ((x,g)::r)=(x,g)::hJ l r->w1 (V (f+24)) (.r [.e 2,.e o,.e B]) x.u (.e g) (D (t.b s d I)) λH=>hX ajm (λM H=>a' (aw q (V (f+24)) 8) [] M H ajm) .next (eI (.r [.e 2,.e o,.e B]) (aT v) J (O (.c (aT b))) (O x.u) (O (.e g)) U W X) H:= λe=>by
    refine Zs aju i.b (ck (.lt (.b .a .r) (.y 800000)) (.lt (.b (.b .a (.b .e .r)) .r) (.y 800000)) A) ajv ajw (by rw(config:={}) [i.u,ek (cs.mp ajs).1,ajs]:t.u[ajl]?=some (o,N)) ajx (ajp _ Z) (by rw(config:={}) [i.u,eV,eu];exact(ajC _ Z).C:fP o B (eV t.u) x) (g4 (cZ ..) z) λu OL=>ajt _ _ λP K=>K u (s++[(S.b (jZ o B (L t.u+1) x) 1 g).u]) (a++j0 (ii o x)) _ _ (λy ajo=>Y y (dy _ ajo)) (i.y OL) (by rw(config:={}) [a6];show L s+1+L r<2000;exact ck (.lt (.b (.b .a .r) .e) (.y 2000)) (.lt (.b .a (.b .e .r)) (.y 2000)) z) (m5 [_,_,_,_,_,_] [] (.lt (.b (.b .a .e) .r) (.y 800000)) (.lt (.b (.b .l (.b .e .r)) .r) (.y 800000)) (.l .a .s) (.l .l .X) (.l .s (.b .X .ab)) (.le .ab .r) [1,1,1,-1,1,1] A OL.b.W i.b.W (by rw(config:={}) [OL.u,a6]:u.u.length=t.u.length+(j0 (ii o x)).length) (Hy (bs:=ii o x))) ?_ ?_
    ·rw(config:={}) [e]at C;rw(config:={}) [bU];exact C
    ·rw(config:={}) [e]at E;rw(config:={}) [<-E,bU,show L u.u=L t.u+L (j0 (ii o x)) by rw(config:={}) [OL.u,a6]];rfl
   have u:hJ l ((x,g)::r)=hJ l r->ajm .next (eI (.r [.e 2,.e o,.e B]) (aT v) J (O (.c (aT b))) (O x.u) (O (.e g)) U W X) (D (t.b s d I)):= λe=>by rw(config:={}) [e]at C E;exact ajt _ _ λP K=>K t s a _ _ (λy ajo=>Y y (dy _ ajo)) i (ck (.lt (.b .a .e) (.y 2000)) (.lt (.b .a (.b .e .r)) (.y 2000)) z) (ck (.lt (.b (.b .a .e) .r) (.y 800000)) (.lt (.b (.b .a (.b .e .r)) .r) (.y 800000)) A) C E
   induction x using iD with
   |c w=>show a7 (D (t.b s d I))[aT b]? _;refine ba (bO (iM i ajr)) ?_;show bB (!(bH Q w).isSome) _ _;rw(config:={}) [ajy];exact fj (λe=>CS (m3 (e))) λe=>u (rp (by show¬(!l.contains w)=af;rw(config:={}) [e];decide))
   |gM w=>exact ba (bO (iM i ajr)) (fh (ajz.resolve_right λF=>F _ Z w aa) (CS (m3 aa)))
   |a=>exact b6 aa (ajp _ Z)
   |d=>exact CS (m3 aa)
   |b OL OL OL=>exact CS (m3 aa)
 ·apply ajn;intro t s a R T Y i z A C E;refine⟨bO (iM i ajq),?_⟩;rw(config:={}) [((ca s).symm.trans E)];exact ajD t _ (((ca a).symm.trans C)▸i)
structure Hz (r:aO):Prop where
 c:r.Pairwise λa b=>a.1<b.1
 W:L r<=100
 d:∀p q,p∈r->q∈r->q.1-p.1<=200
 fe:∀p,p∈r->p.1.natAbs<=10^11
theorem Zv (h:aj≠[]):∃b a,aj[0]?=O b/\aj[L aj-1]?=O a/\b.1=dX aj/\a.1=fA aj/\b∈aj/\a∈aj:=by
 induction aj with
 |nil=>exact b6 aa h
 |cons p t c=>
  induction t using cv with
  |nil=>exact⟨p,p,aa,aa,aa,aa,db ..,db ..⟩
  |cons q u=>exact d0 (c (λe=>by injection e)) λb a i d e=>lL e λi f i g=>⟨p,a,aa,d,aa,f,db ..,dy _ g⟩
theorem Zw (h:aj.Pairwise λa b=>a.1<b.1) (d:aj[0]?=O cu) (c:HA∈aj):cu.1<=HA.1:=by
 induction aj using cv with
 |nil=>cases c
 |cons p t=>
  replace d:=aY d;subst d;rcases fw.mp c with rfl|c
  ·exact g2 _
  ·exact mc ((sN.mp h).1 _ c)
noncomputable abbrev mJ (p:m×m):m×x:=(p.1,.e 1)
section
def w3 (s t:aq):Prop:=∀(i:j) B,s.l[i]?=O (.y B)->t.l[i]?=O (.y B)
def Zx (s u:aq)(c e:aO)(b i:j)(v:x)(f g:m)(h k:E)(a:aO)(l n o:be)(r:aO)(L:aS)(H:Z):Prop:=∀P:aS->bI,(∀(w:aq)(d:aO)(p q:be),d++r=e->cY s w a->w3 u w->w.l[b]?=O (.h ((c++d).map mJ))->P (eI v i f (O (.c (aT b))) l p n o q) (D (w.b h g k)))->P L H
variable{ue:aO}
theorem Zy (u:M=O (.c (aT aK))) (o:am.l[z]?=O (.y (dt.map dW))) (v:am.l[aK]?=O (.h (aj.map mJ))) (C:cY h am ue)(E:L h.l<=aK)(F:(aj++dt).Pairwise λue aK=>ue.1<aK.1)(l:L (aj++dt)<=1000)
 (Q:∀w Y ao,cY h w ue->w3 am w->w.l[aK]?=O (.h ((aj++dt).map mJ))->G .next (eI p f J M N Y ag ah ao) (D (w.b k d I))):
 ds (AO q A) ⟨dt.map dW,O (aT z)⟩ (dt.map dW) (eI p f J M N Y ag ah ao) (D (am.b k d I)) G:=by
 subst u;refine n6 (fG:=⟨dt.map dW,O (aT z)⟩) (Zx h am aj dt aK f p J d k I ue N ag ah) (λg r R H W m S s=>?_) (λR H m=>?_)
  λP K=>K am [] Y ao aa C (λs s e=>e) (by rw[ca];exact v)
 ·apply m;intro w a Y ao i n b c
  ·have t:(aj++a)++g::r=aj++dt:=by rw[bU,i]
   have T:∀y,y∈(aj++a).map mJ->y.1<g.1:= λy U=>by refine aL (f2.mp U) ?_;rintro V l rfl;exact(Cw.mp (t▸F)).2.2 V l g (db ..)
   refine⟨bO (b _ _ o),Zj.mpr (ba (bO c) (fM ?_ ?_))⟩
   ·rw[cj];exact aU (gy (aU (by rw[<-t,a6 (as:=aj++a)];exact cZ _ _) l)) ⋯
   ·rw[(wX (v:=.e 1) T).1];refine S _ _ λP K=>K (w.X aK (.h ((aj++a).map mJ++[mJ g]))) (a++[g]) _ _ (by rw[bU];exact i) (n.e E c) (λf B e=>?_) ?_
    ·refine(lq ?_).trans (b f B e);rintro rfl;have:=b aK B e;rw[c]at this;replace this:=aY this;injection this
    ·rw[<-bU,eu (l₁:=aj++a)];exact kr c
 ·apply m;intro w a Y ao i n b c;rw[ca]at i;subst i;exact⟨bO (b _ _ o),Q w _ _ n b c⟩
theorem AQ:∀{a:n aO},(es a).flatten.Sublist a.flatten
 |[]=>.slnil
 |r::t=>by
  show((r::t).filter _).flatten.Sublist (r++t.flatten);by_cases h:an (1<L r)=af
  ·rw[m3 (p:= λr:aO=>an (1<L r)) h];exact(List.Sublist.refl r).append AQ
  ·rw[rp (p:= λr:aO=>an (1<L r)) h];exact AQ.trans (List.sublist_append_right _ _)
def HB {a b:n aO}:es (a++b)=es a++es b:=aiD ..
def Zz (s t:aq)(a:n aO)(o:cd)(b i:j)(k l c g:m)(p q:E)(u v:be)(x:cd)(y:aS)(H:Z):Prop:=∀P:aS->bI,(∀(w:aq)(d r:n aO)(h:cd)(e:E)(f:m)(z A B:be),d++r=a->h++x=o->L h=L d->cY s w []->w3 t w->w.l[b]?=O (.h ((es d).flatten.map mJ))->
    e++(eC k l c f r).map S.u=p++(eC k l c g a).map S.u->f+L (es r)=g+L (es a)->L e+4*L r<1000->P (eI (.r [.e 2,.e k,.e l]) i c (O (.c (aT b))) u z v A B) (D (w.b e f q)))->P y H
set_option maxHeartbeats 1000000 in
theorem ZC (ajt:b4 q V){i ajm b:j}{C:cd}{g:n aO}{t:aq}{ajn s ajo E u:be}(ajA:j1 o) (aju:t.l[ajm]?=O (.y (C.map λi=>.c (aT i)))) (ajp:qM t.l C (g.map λr=>r.map dW)) (ajB:t.l[b]?=O (.h [])) (ajC:cY h t [])(ajD:L h.l<=b)
 (ajE:∀r,r∈g->Hz r)(ajF:g.flatten.Pairwise λa b=>a.1<b.1)(ajG:L g.flatten<=1000)(ajH:L k+4*L g<1000)
 (ajI:∀w s E u,cY h w []->w3 t w->w.l[b]?=O (.h ((es g).flatten.map mJ))->G .next (eI (.r [.e 2,.e o,.e B]) i J (O (.c (aT b))) ajn s ajo E u) (D (w.b (k++(eC o B J d g).map S.u) (d+L (es g)) I))):
 ds (AN q (V (f+24))) ⟨C.map λi=>.c (aT i),O (aT ajm)⟩ (C.map λi=>.c (aT i)) (eI (.r [.e 2,.e o,.e B]) i J (O (.c (aT b))) ajn s ajo E u) (D (t.b k d I)) G:=by
 refine n6 (fG:=⟨C.map λi=>.c (aT i),O (aT ajm)⟩) (Zz h t g C b i o B J d k I ajn ajo) (λX ajJ ajK H ajT ajq ajv ajw=>?_) (λajK H ajq=>?_)
  λP K=>K t [] g [] k d s E u aa aa aa ajC (λajw ajw e=>e) ajB aa aa ajH
 ·apply ajq;intro w y r Y Z l s E u p F M Q z CS OL R T
  ·induction r using cv with
   |nil=>have U:=ajp.1;rw(config:={}) [<-p,<-F,ca,a6,cj,M]at U;exact b6 U (by show¬(L y)+(L ajJ+1)=L y;exact jl (.b (.l (.b .a (.b .e .r)) .a)))
   |cons c r=>
    have ajl:w.l[X]?=O (.y (c.map dW)):=by
     refine z _ _ (ajp.2 (L Y) X _ ?_ ?_)
     ·rw(config:={}) [<-F,hh (br _),oJ];rfl
     ·rw(config:={}) [<-p,M,eu,hh (by rw(config:={}) [cj];exact br _),cj,oJ];rfl
    have N:Hz c:=ajE c (by rw(config:={}) [<-p];exact gC _ (db ..));have T:L Z+4*(L r+1)<1000:=T;refine⟨bO (z _ _ aju),Zf.mpr (bx.mpr (Zg.mpr (ba (bO ajl) ?_)))⟩;show bB (an ((1:m)<(L (c.map dW):j))) _ _;rw(config:={}) [cj];refine fj (λv=>?_) λv=>?_
    ·have v:1<L c:=by have:=dT v;exact ec (.lt .r .a) (.Lt .r (.d .a)) (dT v:)
     have A:an (1<L c)=true:=dz v;refine d0 (Zv (aj:=c) (λe=>by rw(config:={}) [e]at v;cases v)) λajT ajT ajx ajL ajM=>lL ajM λajN ajO ajy ajr=>bx.mpr (Zh.mpr (ajt.c4 (show 10<=f+24 by exact em (.le (.y 10) (.b .a (.y 24)))) (Y3 (h:=w) ajt Q.b ajl N.W ajx ajL N.c (Zw N.c ajx ajr) (N.d _ _ ajy ajr) (N.fe _ ajy) (N.fe _ ajr) (by lia) ajA λx W=>bq (bx.mpr (Zi.mpr (ba (bO (iM W ajl)) ?_))))));have ajz:((es y).flatten++c).Sublist g.flatten:=by rw(config:={}) [<-p,KY,Cx];exact AQ.append (List.sublist_append_left _ _)
     refine Zy (am:=x) (dt:=c) (aj:=(es y).flatten) (ue:=[]) aa (iM W ajl) (iM W CS) (Q.y W) ajD (ajF.sublist ajz) (aU ajz.length_le ajG) λajP s u ajQ ajR ajS=>?_;have ajs:eC o B J l (c::r)=gO o B (dX c) (fA c) (l+1) (gc c J (dX c) (fA c+1-dX c).toNat)++eC o B J (l+1) r:=by show(match an (1<L c)with|true=>_|false=>_)=_;rw(config:={}) [A];rfl
     rw(config:={}) [ajN,ajO];refine ajv _ _ λP K=>K ajP (y++[c]) r (Y++[X]) _ (l+1) s _ u (by rw(config:={}) [bU];exact p) (by rw(config:={}) [bU];exact F) (by rw(config:={}) [a6,a6,M];rfl) ajQ (λi B e=>ajR i B (iM W (z i B e))) ?_ ?_ ?_ ?_
     ·rw(config:={}) [ajS,HB,KY,show es [c]=[c]from m3 A];rw(config:={}) [show[c].flatten=c from ca c]
     ·rw(config:={}) [<-OL,ajs,eu,bU]
     ·rw(config:={}) [(show es (c::r)=c::es r from m3 A)]at R;have:(L (c::es r):m)=L (es r)+1:=aa;exact CR [_,_,_] [_,_] (.b (.b .a .r) (.d .a)) (.b .e (.d .e)) (.Eq (.b .a (.d .l)) (.b .e (.d .e))) (.Eq (.d .l) (.b (.d .a) .r)) [1,1,-1] [1,-1,1] R this
     ·rw(config:={}) [a6,cj];have:L (gO o B (dX c) (fA c) (l+1) (gc c J (dX c) (fA c+1-dX c).toNat))<=4:=by unfold gO;cases iL o<;>exact ea aa
      exact fE (.lt (.b (.b .a .e) (.f 4 .l)) (.y 1000)) (.lt (.b .a (.f 4 (.b .l .r))) (.y 1000)) (.le .e (.y 4)) T this
    ·have A:an (1<L c)=false:=by refine cL λx=>?_;have:=iF v;exact hA [_] [] .F (.b (.Lt .r (.d .a))) (.lt .r .a) (iF v:) x
     have ajs:eC o B J l (c::r)=eC o B J l r:=by show(match an (1<L c)with|true=>_|false=>_)=_;rw(config:={}) [A];rfl
     refine bq (ajv _ _ λP K=>K w (y++[c]) r (Y++[X]) Z l s _ u (by rw(config:={}) [bU];exact p) (by rw(config:={}) [bU];exact F) (by rw(config:={}) [a6,a6,M];rfl) Q z ?_ (by rw(config:={}) [<-OL,ajs]) (by rw(config:={}) [<-R,(show es (c::r)=es r from rp (by rw(config:={}) [A];decide))]) (ck (.lt (.b .a (.f 4 .e)) (.y 1000)) (.lt (.b .a (.f 4 (.b .e .r))) (.y 1000)) T));rw(config:={}) [CS,HB,show es [c]=[]from rp (by rw(config:={}) [A];decide),ca]
 ·apply ajq;intro w y r Y Z l s E u p F M Q z CS OL R T;have:r=[]:=by have U:=ajp.1;rw(config:={}) [<-p,<-F,ca,eu,a6,cj,cj,M]at U;exact J4 (kB (jN (.le .a .K) (.l .e (.b .e .a)) [1,-1] U) (em (.le .K .a)))
  subst this;rw(config:={}) [ca]at p;subst p;refine⟨bO (z _ _ aju),?_⟩;rw(config:={}) [((ca Z).symm.trans OL),((jg l).symm.trans R)];exact ajI w _ _ _ Q z CS
end
noncomputable abbrev kS (p:m×m):a3×Int:=(.c p.1,p.2)
theorem ZF:(bH (aj.map mJ) d).isSome=(aj.map (·.1)).contains d:=by
 induction aj with
 |nil=>rfl
 |cons p t a=>
  refine(?_:(if p.1=d then O (x.e 1)else bH (t.map mJ) d).isSome=(p.1::t.map (·.1)).contains d);rw[List.contains_cons];by_cases e:p.1=d
  ·rw[cP e,e,KH];rfl
  ·rw[ce e,a,show(d==p.1)=aN from beq_eq_false_iff_ne.mpr λh=>e h.symm];rfl
def w4:fc ((aj.map kS).map (·.1))=aj.map (·.1):=by
 induction aj with
 |nil=>rfl
 |cons p t a=>exact cp (p.1::·) a
theorem ZI (l:j1 d):∀{a:n (a3×m)},(∀r,r∈a->w2 r.1)->(∀r,r∈a->fP d o aj r.1)->∃c:aO,a=c.map kS:=by
 intro a i j;induction a with
 |nil=>exact⟨[],aa⟩
 |cons p t k=>
  refine bu (k (λr b=>i r (dy _ b)) λr b=>j r (dy _ b)) λc e=>?_;clear k;induction p using uP with|mk x g=>
  rcases i _ (db ..)with⟨b,f⟩|⟨b,f⟩
  ·exact⟨(b,g)::c,by rw[e,(show x=.c b from f)];rfl⟩
  ·have:=j _ (db ..);have this:fP d o aj x:=this;rw[(show x=.gM b from f)]at this;exact b6 l (this.1.elim (λh=>by rw[h];unfold j1;decide) λh=>by rw[h];unfold j1;decide)
theorem HC:∀{a:aO},lP (a.map dW)=O a
 |[]=>aa
 |p::t=>by refine(?_:((O (p.1,p.2)).bind λq=>(lP (t.map dW)).map (q::·))=_);rw[HC];rfl
theorem HD:∀{c:aO},(c.Pairwise λa b=>a.1<b.1)->rJ c=af
 |[],_=>aa
 |[p],_=>aa
 |p::q::t,h=>by have h:=sN.mp h;refine(?_:(an (p.1<q.1)&&rJ (q::t))=af);rw[dz (h.1 q (db ..)),HD h.2];rfl
theorem ZJ (h:aj.Pairwise λa b=>a.1<b.1)(d:L aj<64)(q:w (.c (L c)) (c++[.y (aj.map dW)])):oZ c (.y (aj.map dW)) w:=by
 refine fh (by rw[cj];exact f0 d) ?_;induction aj using cv with
 |nil=>refine(?_:mk c (.y ((kj []).map x.e)) w);rw[show kj []=[]from List.mergeSort_nil];exact q
 |cons p t=>rw[HC];exact fh (HD h) q
theorem HE:∀{b:n aO}{a:m},L (eC d o B a b)<=4*L b:=by
 intro b;induction b with
 |nil=>exactλ{_}=>br _
 |cons r t c=>
  intro a;refine(?_:L (match an (1<L r)with|true=>_|false=>_:n S)<=4*(L t+1));cases an (1<L r)with
  |true=>
   have e:L (gO d o (dX r) (fA r) (a+1) (gc r B (dX r) (fA r+1-dX r).toNat))<=4:=by delta gO;cases iL d<;>exact ea aa
   rw[a6];exact fE (.le (.b .a .e) (.f 4 (.b .l .r))) (.le .e (.f 4 .l)) (.le .a (.y 4)) (c (a:=a+1)) e
  |false=>exact ck (.le .a (.f 4 (.b .e .r))) (.le .a (.f 4 .e)) (c (a:=a))
theorem AR:∀{a:n aO},(∀r,r∈a->1<=L r)->L a<=L a.flatten
 |[],_=>br _
 |r::t,h=>by rw[Cx,a6,hM];exact fE (.le (.b .a .r) (.b .e .l)) (.le .r .e) (.le .a .l) (h r (db ..)) (AR (a:=t) λx b=>h x (dy _ b))
def AS:(h.C [aZ]).X (L h.l) df=h.C [df]:=by refine(?_:{h with l:=(h.l++[aZ]).set (L h.l) df}=_);rw[nH _ _ (br _),oJ];rfl
theorem ZM (E:b4 q V)(CS:cI h){OL M:j}{Q:m}{s:n (a3×m)}(ajl:hW o)(ajz:B=(OL+1:j)) (ajA:h.u[OL]?=O (o,Q)) (ajB:Q=0\/Q=32) (A:h.l[M]?=O (.y (s.map j2))) (ajC:∀r,r∈s->r.1≠.a)(R:∀r,r∈s->fP o B (eV h.u) r.1)
 (u:(fc (s.map (·.1))).Pairwise (·<·))(ajm:∀a b,a∈fc (s.map (·.1))->b∈fc (s.map (·.1))->b-a<=100)(N:L s<=12)(ajD:L h.d+20<800000)(ajn:L k<900)
 (K:∀t a c ajo,pu o B J (L h.u) s d ajo a c->cY h t a->w .C (D (t.b (k++c.map S.u) ajo I))):V (f+25) 1195 [bC,.r [.e 2,.e o,.e B],.c (aT M),.e J] (D (h.b k d I)) w:=by
 refine E.r (Y'.mpr (bx.mpr (Za.mpr (hY (bq (bx.mpr (Zb.mpr ?_)))))));have C:cY h (h.C [.h []]) []:=.C CS;have ajp:(h.C [.h []]).l[L h.l]?=O (.h []):=iC ..;refine E.c4 (show 9<=f+24 by exact em (.le (.y 9) (.b .a (.y 24)))) (Zr (h:=h.C [.h []]) E aa ajl (iM C A) λajE ajF=>ba (bW:=ajE) aa ?_);have ajq:∀(y:aq)(i:n aO)(ajr T ajs U W:be),cY h y []->y.l[L h.l]?=O (.h ((es i).flatten.map mJ))->(i=[] \/j1 o/\∃l:aO,s=l.map kS/\AJ l i)->L i<=12->
  a' (aw q (V (f+24)) 9) [wr] (eI (.r [.e 2,.e o,.e B]) (aT M) J (O (.c (aT (L h.l)))) ajr T ajs U W) (D (y.b (k++(eC o B J d i).map S.u) (d+L (es i)) I)) (ch w):= λy i ajr T ajs U W G v z F=>by
  have g:y.u=h.u:=G.u.trans (ca _);refine bx.mpr (Zk.mpr (ba (bO (iM G A)) (Zu (h:=y) (l:=(es i).flatten.map (·.1)) E ajl ajz ajB ajC (λe=>ZF) ?_ G.b (iM G A) v (g▸ajA) (hB [_,_,_] [] (.lt (.b (.b .a .e) .r) (.y 800000)) (.le .e (.y 12)) (.lt (.b .l (.y 20)) (.y 800000)) (.l .a .l) N ajD (by rw[G.b.W,CS.W,g]:y.d.length=h.d.length)) (by rw[a6,cj];exact lI [_,_,_,_] [] (.lt (.b (.b .a .e) .l) (.y 2000)) (.le .l (.y 12)) (.lt .a (.y 900)) (.le .s (.y 12)) (.le .e (.f 4 .s)) [1,1,1,4,1] N ajn F HE) (g▸R) λt ajt Gt=>?_)))
  ·rcases z with rfl|⟨_,l,e,_⟩
   ·exact .inl aa
   ·refine .inr λr u x=>?_;rw[e]at u;refine aL (f2.mp u) ?_;rintro p aju rfl
    exactλe=>by injection e
  ·refine bq ?_;have:=K t _ _ _ (⟨i,_,aa,aa,aa,aa,z⟩) (G.y Gt);rw[eu,<-bU]at this;rw[g];exact this
 refine fj (λe=>?_) λe=>bq ?_
 ·subst e;refine bd (ajF aa) λX ajG=>?_;refine bu (ZI X ajG R) ?_;rintro l rfl;rw[w4]at u ajm;have Y:l.Pairwise λa b=>a.1<b.1:=vi.mp u;have x:L l<=12:=by rw[cj]at N;exact N
  refine bx.mpr (Zc.mpr (ba (bO (iM C A)) (An (fG:=⟨(l.map kS).map j2,O (aT M)⟩) (f:=aT (L (h.C [.h []]).l)) (λv H=>∃g r,g++r=l/\v=(r.map kS).map j2/\H=D (((h.C [.h []]).C [.y (g.map dW)]).b k d I)) ?_ ?_ ⟨[],l,aa,aa,aa⟩)))
  ·intro v v H v P aju Z;refine d0 P ?_;clear P;rintro g r G F rfl;induction r using cv with
   |nil=>injection F
   |cons p r=>
    injection F with ajv ajw
    subst ajv;refine⟨bO (iM (C.y (cY.C (c:=[.y (g.map dW)]) C.b)) A),Zd.mpr (Z (dW p) _ (g.map dW) (bO (iC ..)) (by rw[cj];exact aU (gy (aU (by rw[<-G,a6];exact cZ _ _:g.length<=l.length) x)) ⋯) ⟨g++[p],r,by rw[bU];exact G,ajw,?_⟩)⟩;rw[eu];refine(?_:D ((((h.C [.h []]).C [.y (g.map dW)]).X (L (h.C [.h []]).l) (.y (g.map dW++[dW p]))).b k d I)=_);rw[AS];rfl
  ·intro H ajv;refine d0 ajv ?_;clear ajv;rintro g r G F rfl;have F:r=[]:=aiE.mp (aiE.mp F.symm);subst F;rw[ca]at G;subst G;have P:=C.y (cY.C (c:=[.y (g.map dW)]) C.b);refine⟨bO (iM P A),ba (bO (iC ..)) (ZJ Y (g4 x ⋯) (bq (bx.mpr (Ze.mpr ?_))))⟩;have ajw:=P.y (cY.C (c:=[.y (g.map dW)]) P.b);refine E.c4 (show 0+1<=f+24 by exact em (.le (.b .K .r) (.b .a (.y 24)))) (Yo (f:=0) (h:=((h.C [.h []]).C [.y (g.map dW)]).C [.y (g.map dW)]) (s:=L ((h.C [.h []]).C [.y (g.map dW)]).l) E ajw.b (iC ..) (aU x ⋯) λt ajK ajK i Gt z ajx ajH=>?_);have ajy:L i<=L g:=z.X▸AR λr u=>by have:=z.W r u;exact this.elim (λv=>he (Eq.symm v)) λv=>aU ⋯ v
   refine ba (bO ajx) (ZC (f:=f) E X ajx ajH (iM Gt (iM (cY.C P.b) (iM (cY.C C.b) ajp))) (ajw.y Gt) (br _) (λr u=>?_) (by rw[z.X];exact Y) (by rw[z.X];exact aU x ⋯) (gE [_,_,_] [] (.lt (.b .a (.f 4 .e)) (.y 1000)) (.lt .a (.y 900)) (.le .l (.y 12)) (.le .e .l) [1,1,4,4] ajn x ajy) λy T U W ajI aju ajJ=>bq (G:=hX (ch w) λajt H=>a' (aw q (V (f+24)) 9) [wr] ajt H (ch w)) (bq (G:=ch w) (ajq y i _ _ _ _ _ ajI ajJ (.inr ⟨X,g,aa,z⟩) (aU ajy x))))
   ·have v:r.Sublist g:=by rw[<-z.X];exact aiF u
    refine⟨Y.sublist v,aU v.length_le (aU x ⋯),λp M Z A=>jh (ajm _ _ (nI (v.subset Z)) (nI (v.subset A))) ⋯,λp Z=>?_⟩;have:=(R (kS p) (nI (v.subset Z))).2;exact s4 (hO (.a .K (.b .a (.y (10^11)))) (.a (.g (.y 100)) .a) this.1) (jh this.2 ⋯)
 ·have:=ajq (h.C [.h []]) [] ab ab ab ab ab C ajp (.inl aa) (fK _);rw[show(eC o B J d []).map S.u=[]from aa,ca,show d+(L (es []):m)=d from jg d]at this;exact this
noncomputable abbrev d7 (k f:m)(a:E)(b:m):x:=.r [.e 9,cW k f,.r a,.e b]
abbrev cr (a:x)(b c d e f g h i j k l m n:be):aS:=[O bC,O a,b,c,d,e,f,g,h,i,j,k,l,m,n]
abbrev mK (a:ac->Q E)(b:aQ)(n:j):aQ:=ie iu [589,883,1195,897,890,568,918] b (al a) n
def ZN:bM bK (al q) A 1202 [bC,U] c w=a' (aw q A 9) Gq (cr U ab ab ab ab ab ab ab ab ab ab ab ab ab) c (ch w):=()
def ZR:ig q (f+8) 883 [bC,.e (z+1:j)] (D (h.b k d I)) w=a7 (h.d.map hV)[z]? λa=>gH (al q) a 31 (D (h.b k d I)) λb=>w (.r [.e 2,b,.e (z+1:j)]) (D (h.b k d I)):=()
theorem ZS:aw q (mK q hK (f+9)) 9 Gg (cr (d7 o B bj J) M N Y ag ah ao aJ bc bA b' cy co ci) (D (h.b k d I)) G=G .next (cr (d7 o B bj J) (O (cW o B)) N Y ag ah ao aJ bc bA b' cy co ci) (D (h.b k d I)):=()
theorem ZY:aw q A 9 ws (cr (d7 o B bj (f+1:j)) (O (cW o B)) N Y ag ah ao aJ bc bA b' cy co ci) c G=A 883 [bC,.e (f+1:j)] c λaM c=>G .next (cr (d7 o B bj (f+1:j)) (O (cW o B)) (O aM) Y ag ah ao aJ bc bA b' cy co ci) c:=()
theorem ZZ:aw q A 9 ws (cr (d7 o B bj 0) (O (cW o B)) N Y ag ah ao aJ bc bA b' cy co ci) (D (h.b k d I)) G=A 589 [bC,.e o] (D (h.b k d I)) λz c=>A 883 [bC,z] c λaM c=>G .next (cr (d7 o B bj 0) (O (cW o B)) (O aM) Y ag ah ao aJ bc bA b' cy co ci) c:=()
def Z0:ie iu [444] hK (al q) (f+4) 589 [bC,.e o] (D (h.b k d I)) w=hK 444 [.c 63,.e 1,.f (bG 96),.e o,.e 32] (D (h.b k d I)) w:=()
theorem Z1:aw q (mK q hK (f+9)) 9 Gh (cr U (O (cW o B)) (O (.r [.e 2,.e o,.e bo])) Y ag ah ao aJ bc bA b' cy co ci) (D (h.b k d I)) G=gm k (S.r (.d o bo (.K o B))).u λa=>G .next (cr U (O (cW o B)) (O (.r [.e 2,.e o,.e bo])) Y ag ah ao aJ bc bA b' cy co ci) (D (h.b a d I)):=()
def Z2:aw q (mK q hK (f+9)) 9 Gi (cr U M N Y ag ah ao aJ bc bA b' cy co ci) (D (h.b k d I)) G=G .next (cr U M N (O (.e (d+1))) ag ah ao aJ bc bA b' cy co ci) (D (h.b k (d+1) I)):=()
def Z3:aw q A 9 Gj (cr U M N (O p) ag ah ao aJ bc bA b' cy co ci) c G=G .next (cr U M N (O p) (O p) ah ao aJ bc bA b' cy co ci) c:=()
def Z4:aw q A 9 Gk (cr U M N Y ag ah ao aJ bc bA b' cy co ci) c G=mk c (.y []) λz c=>G .next (cr U M N Y ag (O z) ao aJ bc bA b' cy co ci) c:=()
def Z5:aw q A 9 Gl (cr U M N Y ag ah ao aJ bc bA b' cy co ci) c G=mk c (.y []) λz c=>G .next (cr U M N Y ag ah (O z) aJ bc bA b' cy co ci) c:=()
abbrev AT (a:ac->Q E)(C:aQ):f4:= λp L c w=>(ei (al a) C 13).c (.r [.s 8,.s 9]) p L c λL c=>a' (aw a C 8) [wt,wu,wv] L c w
def Z6:aw q A 9 Gn (cr (d7 o B bj J) M N Y ag ah ao aJ bc bA b' cy co ci) c G=ds (AT q A) ⟨bj,ab⟩ bj (cr (d7 o B bj J) M N Y ag ah ao aJ bc bA b' cy co ci) c G:=()
def Z7:AT q A (.r [p,aM]) (cr U M N Y ag ah ao aJ bc bA b' cy co ci) c G=a' (aw q A 8) [wt,wu,wv] (cr U M N Y ag ah ao (O p) (O aM) bA b' cy co ci) c G:=()
def Z8:aw q (mK q hK (f+9)) 8 wt (cr U M N Y ag ah ao aJ bc bA b' cy co ci) (D (h.b k d I)) G=G .next (cr U M N Y ag ah ao aJ bc (O (.e (d+1))) b' cy co ci) (D (h.b k (d+1) I)):=()
def Z9:aw q A 8 wu (cr U M N Y ag (O (.c z)) ao aJ bc (O p) b' cy co ci) c G=iK q A z c (λa=>a p c) λc=>G .next (cr U M N Y ag (O (.c z)) ao aJ bc (O p) b' cy co ci) c:=()
abbrev w5 (a:ac->Q E)(C:aQ):f4:= λp L c w=>(ei (al a) C 13).c (.s 11) p L c λL c=>a' (aw a C 7) [Gm] L c w
def Z':aw q A 8 wv (cr U M N Y ag ah ao (O (.r bj)) bc bA b' cy co ci) c G=ds (w5 q A) ⟨bj,ab⟩ bj (cr U M N Y ag ah ao (O (.r bj)) bc bA b' cy co ci) c G:=()
theorem aaa:w5 q A aM (cr U M N Y ag ah (O (.c aK)) aJ bc (O p) b' cy co ci) c G=ed (al q) aM (.e 0) c λa=>dg c a (.e 2) λb=>bB b (G .next (cr U M N Y (O p) ah (O (.c aK)) aJ bc (O p) (O aM) cy co ci) c)
 (iK q A aK c (λd=>d (.r [aM,p]) c) λc=>G .next (cr U M N Y ag ah (O (.c aK)) aJ bc (O p) (O aM) cy co ci) c):=()
theorem aab:aw q A 9 Go (cr U M (O p) Y (O aM) ah (O (.c aK)) aJ bc bA b' cy co ci) c G=A 1195 [bC,p,.c aK,aM] c λa c=>G .next (cr U M (O p) Y (O aM) ah (O (.c aK)) aJ bc bA b' cy co ci) c:=()
def aac:aw q A 9 zH (cr U M N Y (O (.e aF)) ah ao aJ bc bA b' cy co ci) c G=A 890 [bC,.e aF] c λa c=>G .next (cr U M N Y (O (.e aF)) ah ao aJ bc bA b' cy co ci) c:=()
def aad:aw q A 9 zI (cr U M N Y ag ah ao aJ bc bA b' cy co ci) c G=G .next (cr U M N Y ag ah ao aJ bc bA b' (O (.e 0)) co ci) c:=()
def aae:aw q A 9 tT (cr U M N Y ag ah ao aJ bc bA b' (O p) co ci) (D (h.b k d [])) G=G .next (cr U M N Y ag ah ao aJ bc bA b' (O p) co ci) (D (h.b k d [])):=()
theorem aaf:aw q A 9 tT (cr U M N Y ag ah ao aJ bc bA b' (O p) co ci) (D (h.b k d (aM::I))) G=a7 (dD (aM::I) ((L (aM::I):m)-1)) λz=>ed (al q) z (.e 1) (D (h.b k d (aM::I))) λw=>G .next (cr U M N Y ag ah ao aJ bc bA b' (O w) co ci) (D (h.b k d (aM::I))):=()
theorem aag:aw q A 9 zJ (cr U M N (O p) ag ah ao aJ bc bA b' (O aM) co ci) (D (h.b k d I)) G=fa (L I+1) (G .next (cr U M N (O p) ag ah ao aJ bc bA b' (O aM) co ci) (D (h.b k d (I++[.r [p,aM]])))):=()
abbrev w6 (a:ac->Q E)(C:aQ):f4:= λp L c w=>(ei (al a) C 13).c (.s 13) p L c λL c=>a' (aw a C 8) [ww,wx,wy] L c w
theorem aah:aw q A 9 zK (cr U M N Y ag (O (.c z)) ao aJ bc bA b' cy co ci) c G=a7 c[z]? λo=>i6 o λm=>js [.e m] λl=>ds (w6 q A) ⟨l,ab⟩ l (cr U M N Y ag (O (.c z)) ao aJ bc bA b' cy co ci) c G:=()
theorem aai:aw q A 8 ww (cr U M N Y ag (O (.c z)) ao aJ bc bA b' cy (O (.e bo)) ci) c G=a7 c[z]? λo=>gi (.e bo) o λa=>A 897 [bC,a] c λb c=>G .next (cr U M N Y ag (O (.c z)) ao aJ bc bA b' cy (O (.e bo)) ci) c:=()
def aaj:ig q (f+4) 897 [bC,.e o] (D (h.b k d I)) w=gm k (S.a o).u λa=>w .C (D (h.b a d I)):=()
def aak:ig q (f+4) 890 [bC,.e o] (D (h.b k d I)) w=gm k (S.bw o).u λa=>w .C (D (h.b a d I)):=()
abbrev uf (a:ac->Q E)(C:aQ):f4:= λp L c w=>(ei (al a) C 13).c (.s 14) p L c λL c=>a' (aw a C 7) [Gp] L c w
theorem aal:aw q A 8 wx (cr (d7 o B bj J) M N Y ag ah ao aJ bc bA b' cy (O (.e bo)) ci) c G=a7 (dD bj bo) λz=>ed (al q) z (.e 1) c λw=>kk c w λt=>ds (uf q A) t t.a (cr (d7 o B bj J) M N Y ag ah ao aJ bc bA b' cy (O (.e bo)) ci) c G:=()
def aje:uf q A p (cr U M N Y ag ah ao aJ bc bA b' cy co ci) (D (h.b k d I)) G=A 568 [bC,p] (D (h.b k d I)) λa c=>G .next (cr U M N Y ag ah ao aJ bc bA b' cy co (O p)) c:=()
theorem aam:aw q A 8 wy (cr U M N (O p) ag ah ao aJ bc bA b' cy co ci) c G=A 918 [bC] c λb c=>a7 (li c b) λb=>bB b (A 890 [bC,p] c λa c=>G .next (cr U M N (O p) ag ah ao aJ bc bA b' cy co ci) c) (G .next (cr U M N (O p) ag ah ao aJ bc bA b' cy co ci) c):=()
def aan:aw q A 9 zL (cr U M N Y ag ah ao aJ bc bA b' cy co ci) (D (h.b k d I)) G=a7 I.getLast? λa=>G .next (cr U M N Y ag ah ao aJ bc bA b' cy co ci) (D (h.b k d I.dropLast)):=()
def aao:aw q A 9 zM (cr U M N (O p) ag ah ao aJ bc bA b' cy co ci) c G=A 897 [bC,p] c λa c=>G .next (cr U M N (O p) ag ah ao aJ bc bA b' cy co ci) c:=()
open Internal.S renaming casesOn->sY
noncomputable def sg (c:S):Bool:=match c with|.bw _=>aN|.c _=>aN|_=>af
def lr (l:n S):Bool:=l.rec af λc t f=>match t with|[]=>sg c|_::_=>f
noncomputable def j3 (a:m×m)(t:e8):S:=match t with|.a=>.bw a.1|.b=>.bw a.2|.c f=>.c f
noncomputable def eW (l:a3):Bool:=match l with|.a=>af|_=>aN
def fW (x:aW)(g:m):n (a3×m):=x.an (c:=m->n (a3×m)) (λa=>[]) (λa=>[]) (λl a a f g=>(l.filter λl=>!eW l).map (λl=>(l,g))++f (g+1)) g
def ft (x:aW)(g d:m):Int:=x.an (c:=m->m->m) (λa d=>d) (λa d=>d) (λl a a f g d=>f (g+1) (match l.any eW with|true=>g|false=>d)) g d
def fI (x:aW)(h:m×m)(g b:m)(i:aO)(c:n S)(e:m)(a:aO):Prop:=x.rec (motive:= λd=>m×m->m->m->aO->n S->m->aO->Prop)
 (λd d b d c e a=>c=[]/\e=b/\a=[])
 (λd d F G h g b i c e a=>∃l p j q o,F h g b i l p j/\G h g p (i++j) q e o/\c=l++q/\a=j++o)
 (λt h d b d c e a=>c=[j3 h t]/\e=b/\a=[])
 (λk f d d b d c e a=>c=[.r (.K k f)]/\e=b/\a=[])
 (λf t h d b d c e a=>c=[.b (.K 1 f) 0 (b+1),j3 h t,.a (b+1)]/\e=b+1/\a=[])
 (λf d F d g b i c e a=>∃l,F (b+3,b+2) g (b+3) i l e a/\c=[.bw (b+2),.a (b+1)]++l++[.a (b+2),.b (.K 1 f) 1 (b+1),.a (b+3)])
 (λk f r d s F h d b i c e a=>∃(v:m)(j:aO)(u:n S)(w:m)(o:aO)(y:n S)(z:aO),(r≠0/\v=r/\j=[] \/r=0/\v=(L i:m)+1/\j=[(k,32)])/\
  pu k v (ft s (b+2) (b+1)) (L (i++j)) (fW s (b+2)) (b+1+s.X) w o u/\F (b+1,h.2) (b+2) w (i++j++o) y e z/\
  c=.r (.d k v (.K k f))::(u++.bw (ft s (b+2) (b+1))::(y++[.a (b+1)]))/\a=j++o++z)
 (λd d d F G h g b i c e a=>∃l p j q o,F h g b i l p j/\G h (g+1) p (i++j) q e o/\c=(.a g::l)++(match lr (.a g::l)with|true=>[.bw h.1]|false=>[])++q/\a=j++o) h g b i c e a
theorem pw (C:fI (.C aB gb) cu J aF aj ai bo dt)(k:∀b c a d e,fI aB cu J aF aj b c a->fI gb cu J c (aj++a) d bo e->ai=b++d->dt=a++e->aV):aV:=by obtain⟨b,c,a,d,e,p,q,pv,l3⟩:=C;exact k b c a d e p q pv l3
theorem w7 (C:fI (.d c3 HF pv) cu J aF aj ai bo dt)(k:∀a c b d e,fI HF cu J aF aj a c b->fI pv cu (J+1) c (aj++b) d bo e->ai=(.a J::a)++(match lr (.a J::a)with|true=>[.bw cu.1]|false=>[])++d->dt=b++e->aV):aV:=by obtain⟨a,c,b,d,e,p,q,pv,l3⟩:=C;exact k a c b d e p q pv l3
theorem sh (C:fI (.c d o B p l3) cu J aF aj ai bo dt) (K:∀(v:m)(a:aO)(c:n S)(e:m)(b:aO)(f:n S)(g:aO),(B≠0/\v=B/\a=[] \/B=0/\v=(L aj:m)+1/\a=[(d,32)])->
 pu d v (ft l3 (aF+2) (aF+1)) (L (aj++a)) (fW l3 (aF+2)) (aF+1+l3.X) e b c->fI l3 (aF+1,cu.2) (aF+2) e (aj++a++b) f bo g->
 ai=.r (.d d v (.K d o))::(c++.bw (ft l3 (aF+2) (aF+1))::(f++[.a (aF+1)]))->dt=a++b++g->aV):aV:=by
 obtain⟨v,a,c,e,b,f,g,h,q,pv,l3,t⟩:=C;exact K v a c e b f g h q pv l3 t
theorem aap:ig q (f+4) 918 [bC] (D (h.b k d I)) w=bB (!(!nS k)) (w (.d af) (D (h.b k d I))) (a7 (dD k ((L k:m)-1)) λx=>ed (al q) x (.e 0) (D (h.b k d I)) λc=>dg (D (h.b k d I)) c (.e 21) λb=>
 bB (!b) (dg (D (h.b k d I)) c (.e 12) λb=>bB (!b) (dg (D (h.b k d I)) c (.e 13) λb=>bB (!b) (dg (D (h.b k d I)) c (.e 17) λb=>w (.d (!b)) (D (h.b k d I))) (w (.d (!b)) (D (h.b k d I)))) (w (.d (!b)) (D (h.b k d I)))) (w (.d (!b)) (D (h.b k d I)))):=()
theorem aaq (b:b4 q V){o:E}{c:S}(a:k=o++[c.u])(e:w (.d (sg c)) (D (h.b k d I))):V (f+4) 918 [bC] (D (h.b k d I)) w:=by
 refine lm b (aap.mpr ?_);rw[(by rw[a];induction o using cv<;>rfl:(!(!nS k))=false)];have g:dD k ((L k:m)-1)=O c.u:=by rw[a,a6,show((L o+L [c.u]:j):m)-1=(L o:j) by show((L o+1:j):m)-1=_;exact mi [_] [] (.c (.d (.b .a .r)) .r) (.d .a)];exact iC ..
 refine ba g ?_;induction c using sY<;>exact e
def ls (a:ac->Q E)(C:aQ)(l:E)(H:Z)(K:bI):Prop:=l.rec (motive:= λb=>bI) K (λv b f H=>a7 (hD (al a) bC (.d 57) H) λc=>jq (al a) C c bC [v] H λb=>f) H
theorem aar:ls q A (k++I) c dm=ls q A k c λc=>ls q A I c dm:=by
 induction k generalizing c with
 |nil=>rfl
 |cons v r b=>refine(?_:(a7 (hD (al q) bC (.d 57) c) λa=>jq (al q) A a bC [v] c λd c=>ls q A (r++I) c dm)=a7 (hD (al q) bC (.d 57) c) λa=>jq (al q) A a bC [v] c λd c=>ls q A r c λc=>ls q A I c dm);congr 1;funext a;congr 1;funext _ e;exact b
open Internal.e8 renaming casesOn->mg
noncomputable abbrev h0 (a:m×m):x:=.r [.e a.1,.e a.2]
def ajf (h:(λ(_:ac)(_:E)(_:Z)(_:bg)=>c8) ak k c w):V 0 ak k c w:=h.elim
theorem w8 (S:b4 q V){v:x}{H:Z}{Q:bg}(h:bM bK (al q) (jj q (λa a a a=>c8) (0+9)) 622 [bC,v] H Q):V (f+10) 622 [bC,v] H Q:=
 S.c4 (show 9+1<=f+10 by exact em (.le (.b (.y 9) .r) (.b .a (.y 10)))) (S.e (λa a a a h=>S.c4 (br 9) (np S (N:=0) (λa a a a h=>h.elim) h)) h)
def ug:dD (I++[h0 cu]) ((L (I++[h0 cu]):m)-1)=O (h0 cu):=by rw[a6,show((L I+L [h0 cu]:j):m)-1=(L I:j) by show((L I+1:j):m)-1=_;exact mi [_] [] (.c (.d (.b .a .r)) .r) (.d .a)];exact iC ..
def aas (a:b4 q V)(b:L k<2000)(e:dm (D (h.b (k++[(S.r (.K o B)).u]) d I))):V (f+10) 622 [bC,.r [.e 1,cW o B]] (D (h.b k d I)) λg c=>dm c:=
 w8 a (XN.mpr (fM (aU b ⋯) e))
theorem aat (S:b4 q V)(b:L k<2000){t:e8}(a:dm (D (h.b (k++[(j3 cu t).u]) d (I++[h0 cu])))):V (f+10) 622 [bC,t.u] (D (h.b k d (I++[h0 cu]))) λe c=>dm c:=by
 have z:L k+1<=de:=aU b ⋯;induction t using mg with
 |a=>exact w8 S (XP.mpr (ba ug (fM z a)))
 |b=>exact w8 S (XQ.mpr (ba ug (fM z a)))
 |c B=>exact w8 S (XO.mpr (fM z a))
noncomputable abbrev si (f:m)(t:x):x:=.r [.e 4,cW 1 f,t,.C]
theorem aau:bM bK (al q) (ie iu [] hK (al q) (f+14)) 622 [bC,si o (.r [.e 10])] (D (h.b k d I)) w=gm k (S.b (.K 1 o) 0 (d+1)).u λa=>a7 (dD I ((L I:m)-1)) λJ=>ed (al q) J (.e 0) (D (h.b a (d+1) I)) λbj=>gm a (.r [.e 21,bj]) λb=>gm b (S.a (d+1)).u λc=>w .C (D (h.b c (d+1) I)):=()
theorem aav:bM bK (al q) (ie iu [] hK (al q) (f+14)) 622 [bC,si o (.r [.e 11])] (D (h.b k d I)) w=gm k (S.b (.K 1 o) 0 (d+1)).u λa=>a7 (dD I ((L I:m)-1)) λJ=>ed (al q) J (.e 1) (D (h.b a (d+1) I)) λbj=>gm a (.r [.e 21,bj]) λb=>gm b (S.a (d+1)).u λc=>w .C (D (h.b c (d+1) I)):=()
theorem aaw:bM bK (al q) (ie iu [] hK (al q) (f+14)) 622 [bC,si o (.r [.e 12,cW 7 B])] (D (h.b k d I)) w=gm k (S.b (.K 1 o) 0 (d+1)).u λa=>gm a (S.c B).u λb=>gm b (S.a (d+1)).u λc=>w .C (D (h.b c (d+1) I)):=()
noncomputable abbrev j4 (f:m)(b:x):x:=.r [.e 5,cW 1 f,b]
def aax:bM bK (al q) A 622 [bC,j4 o U] (D (h.b k d I)) w=A 1129 [.c 91,bC,j4 o U] (D (h.b k d I)) λa c=>w .C c:=()
def aay:bM bK (al q) A 622 [bC,.r [.e 3,.r bj,.e 0]] (D (h.b k d I)) w=A 970 [.c 83,bC,.r [.e 3,.r bj,.e 0]] (D (h.b k d I)) λa c=>w .C c:=()
def aaz:bM bK (al q) A 622 [bC,d7 B o bj J] (D (h.b k d I)) w=A 1216 [.c 92,bC,d7 B o bj J] (D (h.b k d I)) λa c=>w .C c:=()
def HG:bM bK (al q) A 1216 [U,aM,p] c w=A 1202 [aM,p] c λa c=>w .C c:=()
theorem aaA:bM bK (al q) A 1115 [bC,U,.e J,.e aF] (D (h.b k d I)) w=fa (L I+1) (A 568 [bC,U] (D (h.b k d (I++[h0 (J,aF)]))) λa c=>a' (aw q A 9) (wm.drop 2) [O bC,O U,O (.e J),O (.e aF)] c (ch w)):=()
def aaB:a' (aw q A 9) (wm.drop 2) [O bC,O U,O (.e J),O (.e aF)] (D (h.b k d I)) (ch w)=a7 I.getLast? λa=>w .C (D (h.b k d I.dropLast)):=()
def aaC:bM bK (al q) A 568 [bC,p] c w=A 622 [bC,p] c λa c=>w .C c:=()
abbrev uh (a:ac->Q E)(C:aQ):f4:= λp L c w=>(ei (al a) C 13).c (.s 3) p L c λL c=>a' (aw a C 8) [.f (.D (.s 1) (.d 57) [(.s 3)])] L c w
def aaD:bM bK (al q) A 970 [.c 83,bC,.r [.e 3,.r bj,.e 0]] c w=ds (uh q A) ⟨bj,ab⟩ bj [O (.c 83),O bC,O (.r [.e 3,.r bj,.e 0]),ab] c (hX (ch w) λL c=>a' (aw q A 9) [] L c (ch w)):=()
def ajg:uh q A p [O U,O bC,O aM,M] (D (h.b k d I)) G=A 568 [bC,p] (D (h.b k d I)) λa c=>G .next [O U,O bC,O aM,O p] c:=()
theorem aaE:bM bK (al q) (ie iu [1115] hK (al q) (f+6)) 1129 [.c 91,bC,j4 o U] (D (h.b k d I)) w=gm k (S.bw (d+1+1)).u λa=>gm a (S.a (d+1)).u λb=>hK 1115 [bC,U,.e (d+1+1+1),.e (d+1+1)] (D (h.b b (d+1+1+1) I)) λe c=>
 a' (aw q (ie iu [1115] hK (al q) (f+6)) 9) (zx.drop 6) [O (.c 91),O bC,O (j4 o U),O (.e (d+1)),O (.e (d+1+1)),O (.e (d+1+1+1))] c (ch w):=()
theorem aaF:a' (aw q (ie iu [1115] hK (al q) (f+6)) 9) (zx.drop 6) [O p,O bC,O (j4 o U),O (.e J),O (.e aF),O (.e B)] (D (h.b k d I)) (ch w)=gm k (S.a aF).u λa=>gm a (S.b (.K 1 o) 1 J).u λb=>gm b (S.a B).u λM=>w .C (D (h.b M d I)):=()
noncomputable def jw:jX:=⟨1,3,5,80⟩
structure gY (s:aq)(a:E)(c:j):Prop where
 b:cI s
 K:L a+c<=850
 W:L s.d+c<=700000
 qt:∀p,p∈s.u->p.2=0\/p.2=32
def jx (l:ac->Q E)(n:j->aQ)(x:aW):Prop:=∀(N:j)(C:aQ)(_:∀v H h,n N 568 [bC,v] H h->C 568 [bC,v] H h)(s:aq)(b d:E)(i g:m)(e:m×m)(o:b2)(p:bm)(K:bI)(c:j),5*x.i+30<=N->L d+2*x.i<=900->x.K o (eV s.u) p->gY s b (x.e jw+c)->
 (∀t f k a,fI x e g i s.u f k a->cY s t a->gY t (b++f.map S.u) c->K (D (t.b (b++f.map S.u) k (d++[h0 e]))))->ls l C x.u (D (s.b b i (d++[h0 e]))) K
theorem aaG:jx q V .l:= λN C c s c c d g c c c K c b b b a k=>by have:=k s [] d [] ⟨aa,aa,aa⟩ (.D a.b) ⟨a.b,by have:=a.K;rw[Cy,ca];exact aU (iE (ev _ _) _) this,aU (iE (ev _ _) _) a.W,a.qt⟩;rw[Cy,ca]at this;exact this
theorem aaH (y:jx q V aB)(z:jx q V gb):jx q V (.C aB gb):= λN C i s a j A g l m n K c o r v B k=>by
 have J:max aB.i gb.i=(aW.C aB gb).i:=aa;rw[show(aW.C aB gb).u=aB.u++gb.u from aa,aar];refine y N C i s a j A g l m n _ (gb.e jw+c) (aU (vg (pK _ (kF _ _)) _) o) (aU (iE (pK _ (kF _ _)) _) r) v.1 (by rw[<-ka];exact B:gY s a (aB.e jw+(gb.e jw+c))) λt b w f D h E=>z N C i t _ j w g l m n K c (aU (vg (pK _ (mh _ _)) _) o) (aU (iE (pK _ (mh _ _)) _) r) ?_ E λu d F x G H I=>?_
 ·rewrite [h.u,eV,eu]
  have:=aW.aL (eB:=[]) (dt:=f.map λp=>(p.1,0)) v.2;rw[ca]at this;exact this
 ·have e:a++b.map S.u++d.map S.u=a++(b++d).map S.u:=by rw[bU,eu]
  rw[e];exact(k u (b++d) F (f++x) ⟨b,w,f,d,x,D,h.u▸G,aa,aa⟩ (h.y H) (e▸I))
def HH (S:b4 q V){m:j}{v:x}{H:Z}{Q:bg}(h:V m 622 [bC,v] H λa H=>Q .C H):V (m+1) 568 [bC,v] H Q:=
 S.r (aaC.mpr h)
theorem ui (S:b4 q V){d N:j}{C:aQ}(e:∀v H Q,V N 568 [bC,v] H Q->C 568 [bC,v] H Q){s:aq}{a b:E}{c:m}{v:x}{K:bI}(f:d+1<=N)(h:V d 622 [bC,v] (D (s.b a c b)) λg H=>K H):ls q C [v] (D (s.b a c b)) K:=
 show C 568 [bC,v] (D (s.b a c b)) (λg H=>K H)from e _ _ _ (S.c4 f (HH S h))
theorem AU (a:gY h k (z+f))(b:L ai<=z):gY h (k++ai.map S.u) f:=
 ⟨a.b,by rw[a6,cj];have:=a.K;exact kc (.le (.b (.b .a .e) .l) (.y 850)) (.le .e .s) (.le (.b .a (.b .s .l)) (.y 850)) b this,by have:=a.W;exact ex (.le (.b .a .e) (.y 700000)) (.le (.b .a (.b .l .e)) (.y 700000)) this,a.qt⟩
theorem aaI (S:b4 q V){k f:m}:jx q V (.o k f):= λN C b s c c d g c c c K c e h h a i=>ui (d:=0+10) S b (ec (.le (.b (.b .K (.y 10)) .r) .a) (.le (.y 35) .a) e)<|aas S (ex (.lt .a (.y 2000)) (.le (.b .a (.b .e .l)) (.y 850)) a.K) (i s [.r (.K k f)] d [] ⟨aa,aa,aa⟩ (.D a.b) (AU (z:=1) a (br _)))
theorem aaJ (S:b4 q V){t:e8}:jx q V (.p t):= λN C b s c c d g e c c K c f h h a i=>ui (d:=0+10) S b (ec (.le (.b (.b .K (.y 10)) .r) .a) (.le (.y 35) .a) f)<|aat S (ex (.lt .a (.y 2000)) (.le (.b .a (.b .e .l)) (.y 850)) a.K) (i s [j3 e t] d [] ⟨aa,aa,aa⟩ (.D a.b) (AU (z:=3) a (ea aa)))
def aaK (h:cS (.e cu.1)):ed (al q) (h0 cu) (.e 0) c cS:=h
def aaL (h:cS (.e cu.2)):ed (al q) (h0 cu) (.e 1) c cS:=h
theorem aaM (k:b4 q V){f:m}{t:e8}:jx q V (.W f t):= λN C r s d p b g i y y K y u a a l e=>by
 have j:=l.K;have e:=e s [.b (.K 1 f) 0 (b+1),j3 i t,.a (b+1)] (b+1) [] ⟨aa,aa,aa⟩ (.D l.b) (AU (z:=3) l (br _));have w:∀{Q:bg},bM bK (al q) (ie iu [] (λa a a a=>c8) (al q) (0+14)) 622 [bC,si f t.u] (D (s.b d b (p++[h0 i]))) Q->V 15 622 [bC,si f t.u] (D (s.b d b (p++[h0 i]))) Q:= λh=>
  (k.e (λa a a a h=>k.c4 (br 14) (np k (N:=0) (λa a a a h=>h.elim) h)) h)
 have n:L (d++[(S.b (.K 1 f) 0 (b+1)).u])<900000:=by rw[a6];show L d+1<_;exact ex (.lt (.b .a .r) (.y 900000)) (.le (.b .a (.b .e .l)) (.y 850)) j
 have o:∀v:x,L (d++[(S.b (.K 1 f) 0 (b+1)).u]++[v])<900000:= λv=>by rw[a6,a6];show L d+1+1<_;exact ex (.lt (.b (.b .a .r) .r) (.y 900000)) (.le (.b .a (.b .e .l)) (.y 850)) j
 rw[<-(by rw[bU,bU];rfl:d++[(S.b (.K 1 f) 0 (b+1)).u]++[(j3 i t).u]++[(S.a (b+1)).u]=d++List.map S.u [.b (.K 1 f) 0 (b+1),j3 i t,.a (b+1)])]at e;refine ui (d:=15) k r (ec (.le (.b (.y 15) .r) .a) (.le (.y 35) .a) u) (w ?_);induction t using mg with
 |a=>exact aau.mpr (hZ (ex (.lt .a (.y 900000)) (.le (.b .a (.b .e .l)) (.y 850)) j) (ba ug (aaK (hZ n (hZ (o _) e)))))
 |b=>exact aav.mpr (hZ (ex (.lt .a (.y 900000)) (.le (.b .a (.b .e .l)) (.y 850)) j) (ba ug (aaL (hZ n (hZ (o _) e)))))
 |c g=>exact aaw.mpr (hZ (ex (.lt .a (.y 900000)) (.le (.b .a (.b .e .l)) (.y 850)) j) (hZ n (hZ (o _) e)))
def aaN:uh q A p [O aM,O bC,O cC,M] c G=a7 (hD (al q) bC (.d 57) c) λa=>jq (al q) A a bC [p] c λb c=>G .next [O aM,O bC,O cC,O p] c:=()
def HI (b:be)(l:E):be:=l.rec (motive:= λa=>be->be) id (λp a o a=>o (O p)) b
theorem aaO:∀{bj:E}{M:be}{c:Z},ds (uh q A) ⟨k,ab⟩ bj [O aM,O bC,O cC,M] c G=ls q A bj c λc=>G .next [O aM,O bC,O cC,HI M bj] c:=by
 intro bj;induction bj with
 |nil=>exactλ{M c}=>aa
 |cons p t b=>intro M c;refine(?_:uh q A p [O aM,O bC,O cC,M] c _=a7 (hD (al q) bC (.d 57) c) λa=>jq (al q) A a bC [p] c λd c=>ls q A t c _);rw[aaN];congr 1;funext a;congr 1;funext _ d;exact b
def aaP (S:b4 q V){m:j}{K:bI}(a:ls q (V m) bj (D (h.b k d I)) K):V (m+2) 622 [bC,.r [.e 3,.r bj,.e 0]] (D (h.b k d I)) λb c=>K c:=
 S.r (aay.mpr (S.r (aaD.mpr (aaO.mpr a))))
theorem aaQ (S:b4 q V){m:j}{K:bI}(b:L I<1000)(e:V m 622 [bC,U] (D (h.b k d (I++[h0 (B,J)]))) λa c=>a' (aw q (V (m+1)) 9) (wm.drop 2) [O bC,O U,O (.e B),O (.e J)] c (ch λa c=>K c)):V (m+2) 1115 [bC,U,.e B,.e J] (D (h.b k d I)) λa c=>K c:=
 S.r (aaA.mpr (fM (aU b ⋯) (HH S e)))
theorem qN (a:gY h k f)(e:L I=L k+aK)(b:aK+z<=f):gY h I z:=
 ⟨a.b,by rw[e];have:=a.K;exact kc (.le (.b (.b .a .e) .l) (.y 850)) (.le (.b .e .l) .s) (.le (.b .a .s) (.y 850)) b this,by have:=a.W;exact kc (.le (.b .a .e) (.y 700000)) (.le (.b .l .e) .s) (.le (.b .a .s) (.y 700000)) b this,a.qt⟩
def AV (a:gY h k f)(b:z<=f):gY h k z:=qN (aK:=0) a aa (ck (.le (.b .K .a) .e) (.le .a .e) b)
def jy:L (k++[p])=L k+1:=a6
def HJ:(k++[p]).dropLast=k:=List.dropLast_concat
theorem aaR (j:b4 q V){f:m}{b:aW}(z:jx q V b):jx q V (.h f b):= λN C A s k p d g v B C K c D w E l o=>by
 have l:gY s k ((5+b.e jw)+c):=l;have x:L (p++[h0 v])=L p+1:=jy;have y:=l.K;refine ui (d:=(5*b.i+30)+2+2+6+1+1) j A (ck (.le (.b (.b (.b (.b (.b (.b (.b (.f 5 .a) (.y 30)) .W) .W) (.y 6)) .r) .r) .r) .e) (.le (.b (.f 5 (.b .a .L)) (.y 30)) .e) D) (j.r (aax.mpr (j.e (C:=ie iu [1115] (V ((5*b.i+30)+2+2)) (al q) (0+6)) (λi i i i h=>np j (i:=V ((5*b.i+30)+2+2)) (N:=(5*b.i+30)+2+2) (c:=0+6) (λi i i i h=>h) h) ((aaE (f:=0)).mpr ?_))));rw[(lA (k8 (.a (.b (.b (.b .a .r) .r) .r) (.b .a .L))) (k8 (.a (.b .a .L) (.b (.b (.b .a .r) .r) .r))):d+1+1+1=d+3),(lA (k8 (.a (.b (.b .a .r) .r) (.b .a .W))) (k8 (.a (.b .a .W) (.b (.b .a .r) .r))):d+1+1=d+2)];refine hZ (ex (.lt .a (.y 900000)) (.le (.b .a (.b (.b (.y 5) .e) .l)) (.y 850)) y) (hZ (by rw[jy];exact ex (.lt (.b .a .r) (.y 900000)) (.le (.b .a (.b (.b (.y 5) .e) .l)) (.y 850)) y) (aaQ j (by rw[x];exact ck (.lt (.b .a .r) (.y 1000)) (.le (.b .a .e) (.y 900)) w) (aaP j (z _ _ (λi i i h=>h) s _ (p++[h0 v]) (d+3) g (d+3,d+2) B af _ (3+c) (br _) (fE (.le (.b .a (.f 2 .e)) (.y 900)) (.le (.b .l (.f 2 (.b .e .L))) (.y 900)) (.l .a (.b .l .r)) w x) E.1 (qN l (by rw[jy,jy]:(k++[(S.bw (d+2)).u]++[(S.a (d+1)).u]).length=k.length+2) (jl (.le (.b .W (.b .a (.b .L .e))) (.b (.b (.y 5) .a) .e)))) λt r F a H G R=>?_))));have u:=R.K;refine aaB.mpr (ba (aiG ..) ?_);rw[HJ];have e:k++[(S.bw (d+2)).u]++[(S.a (d+1)).u]++r.map S.u++[(S.a (d+2)).u]++[(S.b (.K 1 f) 1 (d+1)).u]++[(S.a (d+3)).u]=k++([S.bw (d+2),.a (d+1)]++r++[S.a (d+2),.b (.K 1 f) 1 (d+1),.a (d+3)]:n S).map S.u:=by rw[eu,eu];rw[bU,bU,bU,bU,bU];rfl
 refine aaF.mpr (hZ (ck (.lt .a (.y 900000)) (.le (.b .a (.b .L .e)) (.y 850)) u) (hZ (by rw[jy];exact ck (.lt (.b .a .r) (.y 900000)) (.le (.b .a (.b .L .e)) (.y 850)) u) (hZ (by rw[jy,jy];exact ck (.lt (.b (.b .a .r) .r) (.y 900000)) (.le (.b .a (.b .L .e)) (.y 850)) u) ?_)));have o:=o t _ F a ⟨r,H,aa⟩ G (qN (z:=c) (aK:=3) R (by rw[<-e,jy,jy,jy]) (br _));rw[<-e]at o;exact o
abbrev aq.aa (s:aq)(a b:E):aq:=s.C [.y a,.y b]
def AW:(h.aa k I).l[L h.l]?=O (.y k):=by rw[hh (br _),oJ];rfl
def AX:(h.aa k I).l[L h.l+1]?=O (.y I):=by rw[hh (fJ _),show Nat.succ (L h.l)-L h.l=1 from ox (L h.l) 1];rfl
def aaS:(h.aa k I).X (L h.l) (.y bj)=h.aa bj I:=by refine(?_:{h with l:=(h.l++[aX.y k,aX.y I]).set (L h.l) _}=_);rw[nH _ _ (br _),oJ];rfl
def aaT:(h.aa k I).X (L h.l+1) (.y bj)=h.aa k bj:=by refine(?_:{h with l:=(h.l++[aX.y k,aX.y I]).set (L h.l+1) _}=_);rw[nH _ _ (fJ _),show Nat.succ (L h.l)-L h.l=1 from ox (L h.l) 1];rfl
def qO (a:n a3)(g d:m):Int:=match a.any eW with|true=>g|false=>d
def l4 (a:n a3)(g:m):n (a3×m):=(a.filter λl=>!eW l).map λl=>(l,g)
def aaU:qO (.a::c3) d o=qO c3 d d:=by
 delta qO;cases h:c3.any eW with
 |true=>rfl
 |false=>rfl
def aaV (h:eW cH=aN):qO (cH::c3) d o=qO c3 d o:=by unfold qO;rw[xS,h];rfl
def HK (h:eW cH=aN):l4 (cH::c3) d=(cH,d)::l4 c3 d:=by unfold l4;rw[m3 (p:= λcH=>!eW cH) (by rw[h];rfl)];rfl
theorem aaW (b:L bj<1000)(a:dm (D ((h.aa dK (bj++[p])).b k d I))):iK q A (aT (L h.l+1)) (D ((h.aa dK bj).b k d I)) (λM=>M p (D ((h.aa dK bj).b k d I))) dm:=by refine n' (h:=(h.aa dK bj).b k d I) (f:=L h.l+1+20) AX (oa (h:=(h.aa dK bj).b k d I) (f:=L h.l+1+20) AX b ?_);rw[<-aaT (I:=bj)]at a;exact a
theorem aaX (b:L dK<1000)(a:dm (D ((h.aa (dK++[p]) bj).b k d I))):iK q A (aT (L h.l)) (D ((h.aa dK bj).b k d I)) (λM=>M p (D ((h.aa dK bj).b k d I))) dm:=by refine n' (h:=(h.aa dK bj).b k d I) (f:=L h.l+20) AW (oa (h:=(h.aa dK bj).b k d I) (f:=L h.l+20) AW b ?_);rw[<-aaS (k:=dK)]at a;exact a
theorem aaY:∀{b:n a3}{o:m}{a:n (a3×m)}{aJ:be},L a+L b<900->(∀aJ,G .next (cr p M N Y (O (.e (qO b B o))) ag (O (.c (aT (L h.l+1)))) ah ao (O (.e B)) aJ bc bA b') (D ((h.aa dK ((a++l4 b B).map j2)).b k d I)))->
 ds (w5 q A) ⟨bj,ab⟩ (b.map a3.u) (cr p M N Y (O (.e o)) ag (O (.c (aT (L h.l+1)))) ah ao (O (.e B)) aJ bc bA b') (D ((h.aa dK (a.map j2)).b k d I)) G:=by
 intro b;induction b with
 |nil=>intro o a aJ c e;have:=e aJ;rw[show a++l4 [] B=a from ca _]at this;exact this
 |cons l t j=>
  intro o a aJ c e;have c:L a+(L t+1)<900:=c;have g:eW l=aN->iK q A (aT (L h.l+1)) (D ((h.aa dK (a.map j2)).b k d I)) (λf=>f (.r [l.u,.e B]) (D ((h.aa dK (a.map j2)).b k d I)))
   λH=>ds (w5 q A) ⟨bj,ab⟩ (t.map a3.u) (cr p M N Y (O (.e o)) ag (O (.c (aT (L h.l+1)))) ah ao (O (.e B)) (O l.u) bc bA b') H G:= λf=>by
   refine aaW (by rw[cj];exact ck (.lt .a (.y 1000)) (.lt (.b .a (.b .e .r)) (.y 900)) c) ?_;have:=j (o:=o) (a:=a++[(l,B)]) (aJ:=O l.u) (by rw[a6];show L a+1+L t<900;exact ck (.lt (.b (.b .a .r) .e) (.y 900)) (.lt (.b .a (.b .e .r)) (.y 900)) c) λi=>by have:=e i;rw[aaV f,HK f]at this;rw[bU];exact this
   rw[eu]at this;exact this
  refine aaa.mpr ?_;induction l using iD with
  |a=>exact j (o:=B) (ck (.lt (.b .a .e) (.y 900)) (.lt (.b .a (.b .e .r)) (.y 900)) c) λi=>by have:=e i;rw[aaU]at this;exact this
  |c r=>exact g aa
  |gM r=>exact g aa
  |d=>exact g aa
  |b f f f=>exact g aa
def qP (x:aW)(g:m):E:=x.an (c:=m->E) (λa=>[]) (λa=>[]) (λa a a f g=>.e g::f (g+1)) g
theorem aaZ (p:aB.L):∀(d o:m)(dK:E)(a:n (a3×m))(ah ao c aJ:be),L a+L aB.D<900->L dK+aB.X<900->
 (∀ah ao c aJ,G .next (cr (d7 B J bj aF) M N Y (O (.e (ft aB (d+1) o))) (O (.c (aT (L h.l)))) (O (.c (aT (L h.l+1)))) ah ao c aJ bc bA b') (D ((h.aa (dK++qP aB (d+1)) ((a++fW aB (d+1)).map j2)).b k (d+aB.X) I)))->
 ds (AT q (mK q hK (f+9))) ⟨bj,ab⟩ aB.u (cr (d7 B J bj aF) M N Y (O (.e o)) (O (.c (aT (L h.l)))) (O (.c (aT (L h.l+1)))) ah ao c aJ bc bA b') (D ((h.aa dK (a.map j2)).b k d I)) G:=by
 refine aW.aN p ?_ λe b r _ s=>?_
 ·intro d o dK a ah ao c aJ g g i;have:=i ah ao c aJ;rw[show dK++qP .l (d+1)=dK from ca _,show a++fW .l (d+1)=a from ca _,show d+((aW.l.X:j):m)=d from jg d]at this;exact this
 ·intro d o dK a ah ao c aJ g l i;have g:L a+L (e++r.D)<900:=g;rw[a6]at g;refine Z7.mpr (bx.mpr (Z8.mpr (bq (bx.mpr (Z9.mpr (aaX (g4 (cZ ..) (kE l ⋯)) (bq (bx.mpr (Z'.mpr (aaY (ex (.lt (.b .a .e) (.y 900)) (.lt (.b .a (.b .e .l)) (.y 900)) g) λaJ=>bq ?_))))))))));refine s (d+1) _ (dK++[.e (d+1)]) (a++l4 e (d+1)) _ _ _ _ ?_ (by rw[jy];exact ck (.lt (.b (.b .a .r) .e) (.y 900)) (.lt (.b .a (.b .e .r)) (.y 900)) l) λah ao c aJ=>?_
  ·have:L (l4 e (d+1))<=L e:=by rw[cj];exact yf ..
   rw[a6];exact kc (.lt (.b (.b .a .e) .l) (.y 900)) (.lt (.b .a (.b .s .l)) (.y 900)) (.le .e .s) g this
  ·rw[bU,bU,show d+1+(r.X:m)=d+((aW.d e b r).X:j) by show _=d+((r.X+1:j):m);exact mi [_] [_] (.b (.b .a .r) (.d .a)) (.b .a (.d (.b .a .r)))];exact(i ah ao c aJ)
def uj (P:aW->Prop)(x:aW):Prop:=x.an fZ fZ λa b a i=>(b.al->P b)/\i
theorem AY:∀{l:n S}{c:S},lr (l++[c])=sg c
 |[],c=>aa
 |a:: [],c=>aa
 |a::b::t,c=>AY (l:=b::t)
def aa0:∃a d,eX::ai=a++[d]:=⟨(eX::ai).dropLast,(eX::ai).getLast (List.cons_ne_nil _ _),(List.dropLast_concat_getLast _).symm⟩
def aa1:w6 q A U (cr p M N Y ag ah ao aJ bc bA b' cy co ci) c G=a' (aw q A 8) [ww,wx,wy] (cr p M N Y ag ah ao aJ bc bA b' cy (O U) ci) c G:=()
theorem aa2:uf q A U (cr p M N Y ag ah ao aJ bc bA b' cy co ci) c G=a7 (hD (al q) bC (.d 57) c) λa=>jq (al q) A a bC [U] c λb c=>G .next (cr p M N Y ag ah ao aJ bc bA b' cy co (O U)) c:=()
theorem aa3:∀{l:E}{ci:be}{c:Z},ds (uf q A) ⟨bj,ab⟩ l (cr p M N Y ag ah ao aJ bc bA b' cy co ci) c G=ls q A l c λc=>G .next (cr p M N Y ag ah ao aJ bc bA b' cy co (HI ci l)) c:=by
 intro l;induction l with
 |nil=>exactλ{ci c}=>aa
 |cons U am b=>intro ci c;refine(?_:uf q A U (cr p M N Y ag ah ao aJ bc bA b' cy co ci) c _=a7 (hD (al q) bC (.d 57) c) λa=>jq (al q) A a bC [U] c λd c=>ls q A am c _);rw[aa2];congr 1;funext a;congr 1;funext _ d;exact b
def HL (a:b4 q V){z:m}{K:bI}(b:4<=f)(e:L k<900000)(g:K (D (h.b (k++[(S.a z).u]) d I))):V f 897 [bC,.e z] (D (h.b k d I)) λi c=>K c:=
 a.c4 b (lm a ((aaj (f:=0)).mpr (hZ e g)))
def HM (a:b4 q V){z:m}{K:bI}(b:4<=f)(e:L k<900000)(g:K (D (h.b (k++[(S.bw z).u]) d I))):V f 890 [bC,.e z] (D (h.b k d I)) λi c=>K c:=
 a.c4 b (lm a ((aak (f:=0)).mpr (hZ e g)))
def AZ (h:ct.drop f=bW::nn):ct[f]?=O bW/\ct.drop (f+1)=nn:=by
 have e:(ct.drop f)[0]?=O bW:=by rw[h];rfl
 rw[sX]at e;exact⟨e,by rw[<-List.drop_drop,h];rfl⟩
def lu (b g:m)(a:n S):n S:=(.a g::a)++(match lr (.a g::a)with|true=>[.bw b]|false=>[])
theorem aa4 (r:b4 q V){k C F i w:m}{n y p:j}{s:E}{H:b2}{I:bm}{c:j}{b:aW}{Q:E}{g z:m}{t:aq}{e:E}(R:jx q V b) (T:bj[p]?=O (.r [.r Q,.r b.u])) (U:dK[p]?=O (.e g)) (W:t.l[y]?=O (.y dK))
 (u:5*b.i+30<=f)(X:L s+2*b.i<=900)(Y:b.K H (eV t.u) I)(J:gY t e (b.e jw+2+c))
 (K:∀l a v x ci,fI b (i,w) g z t.u a v x->cY t l x->gY l (e++(lu i g a).map S.u) c->G .next (cr (d7 k C bj F) M N (O (.e i)) ag (O (.c (aT y))) ao aJ bc bA b' cy (O (.e p)) ci) (D (l.b (e++(lu i g a).map S.u) v (s++[h0 (i,w)])))):
 w6 q (mK q (V f) (n+9)) (.e p) (cr (d7 k C bj F) M N (O (.e i)) ag (O (.c (aT y))) ao aJ bc bA b' cy co ci) (D (t.b e z (s++[h0 (i,w)]))) G:=by
 refine aa1.mpr (bx.mpr (aai.mpr (ba (bO W) (ba U (HL r (ck (.le (.y 4) .a) (.le (.b (.f 5 .e) (.y 30)) .a) u) (ex (.lt .a (.y 900000)) (.le (.b .a (.b (.b .e .W) .l)) (.y 850)) J.K) (bq (bx.mpr (aal.mpr (ba T (aa3.mpr (R f (mK q (V f) (n+9)) (λd d d h=>h) t (e++[(S.a g).u]) s z g (i,w) H I _ _ u X Y (qN (aK:=1) J jy (jl (.le (.b .r (.b .a (.b .r .e))) (.b (.b .a .W) .e)))) λl a v x Z CS A=>bq (bx.mpr (aam.mpr (eO (aa0 (eX:=S.a g) (ai:=a)) λOL d P=>?_))))))))))))));have B:e++[(S.a g).u]++a.map S.u=e++(S.a g::a).map S.u:=by rw[bU];rfl
 have ajl:e++[(S.a g).u]++a.map S.u=e++OL.map S.u++[d.u]:=by rw[B,P,eu,<-bU];rfl
 refine r.c4 (show 0+4<=f by exact ck (.le (.b .K (.y 4)) .a) (.le (.b (.f 5 .e) (.y 30)) .a) u) (aaq r ajl ?_);have K:= λci=>K l a v x ci Z CS;unfold lu at K;rw[(by rw[P];exact AY:lr (S.a g::a)=sg d)]at K;refine fj (λh=>HM r (ck (.le (.y 4) .a) (.le (.b (.f 5 .e) (.y 30)) .a) u) (ck (.lt .a (.y 900000)) (.le (.b .a (.b .r .e)) (.y 850)) A.K) (bq ?_)) λh=>bq ?_
 ·rw[h]at K;have o:gY l (e++[(S.a g).u]++a.map S.u++[(S.bw i).u]) c:=qN (aK:=1) A jy (br _);rw[(by rw[B,eu,bU];rfl:e++[(S.a g).u]++a.map S.u++[(S.bw i).u]=e++((S.a g::a)++[S.bw i]).map S.u)]at o⊢;exact K _ o
 ·rw[h]at K;have o:gY l (e++[(S.a g).u]++a.map S.u) c:=AV A (ev _ _);rw[(by rw[B,ca]:e++[(S.a g).u]++a.map S.u=e++((S.a g::a)++[]).map S.u)]at o⊢;exact K _ o
theorem aa5 (R:b4 q V){z A C e w:m}{n t:j}{g:E}{T:E}{U:b2}{W:bm}{c:j}{r:aW}(X:r.L):∀(p:j)(am:aq)(k:E)(d B:m)(co ci:be),uj (jx q V) r->bj.drop p=r.u->dK.drop p=qP r B->am.l[t]?=O (.y dK)->
 5*r.i+30<=f->L g+2*r.i<=900->r.K U (eV am.u) W->gY am k (r.e jw+2*r.X+c)->
 (∀b h i a co ci,fI r (e,w) B d am.u h i a->cY am b a->gY b (k++h.map S.u) c->G .next (cr (d7 z A bj C) M N (O (.e e)) ag (O (.c (aT t))) ao aJ bc bA b' cy co ci) (D (b.b (k++h.map S.u) i (g++[h0 (e,w)]))))->
 ds (w6 q (mK q (V f) (n+9))) ⟨T,ab⟩ (fT p r.X) (cr (d7 z A bj C) M N (O (.e e)) ag (O (.c (aT t))) ao aJ bc bA b' cy co ci) (D (am.b k d (g++[h0 (e,w)]))) G:=by
 refine aW.aN X ?_ λY b r _ Z=>?_
 ·intro p am k d B co ci a a a a a a a h K;have:=K am [] d [] co ci ⟨aa,aa,aa⟩ (.D h.b) (by rw[Cy,ca];exact AV h (ev _ _));rw[Cy,ca]at this;exact this
 ·intro p am k d B co ci F a i H l o u h K;have a:=AZ (show bj.drop p=.r [.r (Y.map a3.u),.r b.u]::r.u from a);have i:=AZ (show dK.drop p=.e B::qP r (B+1)from i);have I:b.i<=max b.i r.i:=kF _ _;have J:r.i<=max b.i r.i:=mh _ _;have l:5*max b.i r.i+30<=f:=l;have o:L g+2*max b.i r.i<=900:=o;refine aa4 R (c:=r.e jw+2*r.X+c) (F.1 u.1.2) a.1 i.1 H (g6 (.le (.b (.f 5 .a) (.y 30)) .e) (.le .a .l) (.le (.b (.f 5 .l) (.y 30)) .e) [1,5,1] I l) (g6 (.le (.b .a (.f 2 .e)) (.y 900)) (.le .e .l) (.le (.b .a (.f 2 .l)) (.y 900)) [1,2,1] I o) u.1.1 (AV h (jk [_,_,_,_] [] (.le (.b (.b .a .W) (.b (.b .e (.f 2 .l)) .s)) (.b (.b (.b .a .e) (.f 2 (.b .l .r))) .s)))) λajq v CS x ci OL s ajl=>Z (p+1) _ _ _ _ _ _ F.2 a.2 i.2 (iM s H) (g6 (.le (.b (.f 5 .a) (.y 30)) .e) (.le .a .l) (.le (.b (.f 5 .l) (.y 30)) .e) [1,5,1] J l) (g6 (.le (.b .a (.f 2 .e)) (.y 900)) (.le .e .l) (.le (.b .a (.f 2 .l)) (.y 900)) [1,2,1] J o) ?_ ajl λajm y ajn P co ci ajo ajp Q=>?_
  ·rw(config:={}) [s.u,eV,eu];have:=aW.aL (eB:=[]) (dt:=x.map λp=>(p.1,0)) u.2;rw[ca]at this;exact this
  ·rw[(by rw(config:={}) [eu,bU]:k++(lu e B v).map S.u++y.map S.u=k++(lu e B v++y).map S.u)]at Q⊢;exact K ajm _ ajn (x++P) co ci ⟨v,CS,x,y,P,OL,s.u▸ajo,aa,aa⟩ (s.y ajp) Q
def jz:(ct++[bW])[L ct]?=O bW:=iC ..
theorem cY.af (a:cI h)(e:L h.d+1<800000):cY h (h.af d o a9) [(d,o)]:=by
 refine⟨aL a.a λb c f=>⟨⟨b++[L h.l],?_,?_⟩,?_,?_⟩,aa,⟨_,aa⟩,⟨_,aa⟩,aa⟩
 ·refine(?_:h.d++_=_);rw[c,eu];rfl
 ·refine(?_:i' (h.l++[nm (L h.d+1) d o a9]) _ _);rw[(by rw[c,cj]:h.d.length=b.length)];exact f.K
 ·rw[a6,a6,a.b];rfl
 ·rw[a6];exact e
theorem HN (S:b4 q V)(b:cI h){i:j}{a c:m}(e:8<=f) (g:h.u[i]?=O (a,c)) (l:w (.r [.e 2,.e a,.e (i+1:j)]) (D (h.b k d I))):V f 883 [bC,.e (i+1:j)] (D (h.b k d I)) w:=by obtain⟨p,n,p,o⟩:=b.r g;exact S.c4 e (lm S ((ZR (f:=0)).mpr (ba n (se o aa aa l))))
theorem aa6 (S:b4 q V)(c:cI h){b r g:m}(s:20<=f)(y:g=0\/ln (eV h.u) g b)(A:∀p,p∈h.u->p.2=0\/p.2=32)(B:L h.d+1<800000)
 (K:∀v t a u n,(g≠0/\v=g/\a=[] \/g=0/\v=(L h.u:m)+1/\a=[(b,32)])->cY h t a->v=(u+1:j)->t.u[u]?=O (b,n)->(n=0\/n=32)->G .next (cr (d7 b r bj g) (O (cW b r)) (O (.r [.e 2,.e b,.e v])) N Y ag ah ao aJ bc bA b' cy co) (D (t.b k d I))):
 aw q (mK q (V f) (z+9)) 9 ws (cr (d7 b r bj g) (O (cW b r)) M N Y ag ah ao aJ bc bA b' cy co) (D (h.b k d I)) G:=by
 rcases y with rfl|⟨i,rfl,o⟩
 ·have e:L h.d=L h.u:=c.W;refine ZZ.mpr (S.c4 (show 4+4<=f by exact ec (.le (.b (.y 4) (.y 4)) .a) (.le (.y 20) .a) s) (S.e (C:=ie iu [444] (V 3) (al q) (0+4)) (λl l l l c=>np S (i:=V 3) (N:=3) (c:=0+4) (λl l l l c=>c) c) (Z0.mpr (ua (f:=0) (h:=h.b k d I) S c.b (kE c.lt ⋯) ?_))));have l:=cY.af (d:=b) (o:=32) (a9:=bG 96) c B;have w:(((L h.d+1:j):m))=(L h.d:m)+1:=m2 ..;have x:(h.af b 32 (bG 96)).u[L h.d]?=O (b,32):=by rw[e];exact jz
  rw[<-w];exact HN S l.b (aU ⋯ s) x (K ((L h.d+1:j):m) _ _ _ _ (.inr ⟨aa,by rw[w,e],aa⟩) l aa x (.inr aa))
 ·rw[eV,h4]at o;cases e:h.u[i]?with
  |none=>rw[e]at o;injection o
  |some p=>obtain⟨l,n⟩:=p;rw[e]at o;have:l=b:=cp Prod.fst (JT o);subst this;exact ZY.mpr (HN S c (aU ⋯ s) e (K _ h [] i n (.inl ⟨em (.b (.Eq (.b (.d .a) .r) .K)),aa,aa⟩) (.D c) aa e (A _ (jK e))))
theorem HO:∀{a:n (a3×m)},L (l2 d a)<=L a
 |[]=>br _
 |r::t=>by refine(?_:L (j0 (ii d r.1)++l2 d t)<=L t+1);rw[a6];exact fE (.le (.b .a .e) (.b .l .r)) (.le .e .l) (.le .a .r) HO Hy
theorem HP:∀{a:n (a3×m)}{b:j},L (iw d o b a)=L a
 |[],_=>aa
 |_::_,_=>cp (·+1) HP
theorem aa7 (h:pu d o B f fk J aF aj ai):L ai<=5*L fk/\L aj<=L fk:=by
 refine ru h.C ?_;rintro b c i i rfl rfl k;have e:L (hJ c fk)<=L fk:=yf ..;have l:L b<=L fk:=by
  rcases k with rfl|⟨_,q,rfl,g⟩
  ·exact fK _
  ·rw[cj,<-g.X];exact AR λr p=>by have:=g.W r p;exact this.elim (λa=>he (Eq.symm a)) λa=>aU ⋯ a
 rw[a6,HP];have a:=HE (d:=d) (o:=o) (B:=B) (b:=b) (a:=J);have:=HO (d:=d) (a:=hJ c fk);exact⟨gE [_,_,_,_] [] (.le (.b .a .e) (.f 5 .l)) (.le .e .l) (.le .a (.f 4 .s)) (.le .s .l) [1,1,1,4] e a l,aU this e⟩
theorem uk:∀{g:m},aB.L->(fW aB g).map (·.1)=aB.D.filter λl=>!eW l:=by
 induction aB with
 |d a b r _ c=>intro g h;refine(?_:(l4 a g++fW r (g+1)).map (·.1)=(a++r.D).filter _);rw[eu,aiD,c h];rw[Ku];exact cp (·++_) (List.map_id _)
 |_=>intro g a;rfl
theorem sj:∀{l:n a3},fc (l.filter λl=>!eW l)=fc l
 |[]=>aa
 |l::t=>by
  have:=sj (l:=t);induction l using iD with
  |a=>exact this
  |c a=>exact cp (a::·) this
  |_=>exact this
def aa8:∀{g:m},L (qP aB g)=aB.X:=by
 induction aB with
 |d b b r _ a=>exact cp (·+1) a
 |_=>exact aa
inductive ul:E->m->Prop
 |l:ul [] 0
 |top (b:E)(a w:m):ul (b++[h0 (a,w)]) w
theorem aa9 (g:ul dK o)(K:G .next (cr p M N Y ag ah ao aJ bc bA b' (O (.e o)) co ci) (D (h.b k d dK))):aw q A 9 tT (cr p M N Y ag ah ao aJ bc bA b' (O (.e 0)) co ci) (D (h.b k d dK)) G:=by
 cases g with
 |l=>exact aae.mpr K
 |top b a o=>
  have e:∃y c,b++[h0 (a,o)]=y::c:=by induction b using cv<;>exact⟨_,_,aa⟩
  refine eO e λy c e=>?_;have f:=ug (I:=b) (cu:=(a,o));rw[e]at f K⊢;exact aaf.mpr (ba f K)
def l5 (a:w (.c (aT (L h.l))) (D ((h.C [aZ]).b k d I))):mk (D (h.b k d I)) aZ w:=a
theorem aba (a:w (.c (aT (L h.l+1))) (D ((h.aa [] []).b k d I))):mk (D ((h.C [.y []]).b k d I)) (.y []) w:=by
 have b:(h.C [.y []]).C [.y []]=h.aa [] []:=by refine(?_:{h with l:=h.l++[aX.y []]++[aX.y []]}=_);rw[bU];rfl
 have:=l5 (w:=w) (h:=h.C [.y []]) (aZ:=.y []) (k:=k) (d:=d) (I:=I);rw[(show L (h.C [.y []]).l=L h.l+1 from a6),b]at this;exact this a
theorem w9 (b:qH B aF p (eV h.u) aB){a:aO}(f:aF≠0/\d=aF/\a=[] \/aF=0/\d=(L h.u:m)+1/\a=[(B,32)]){l:a3}(c:l∈aB.D):fP B d (eV (h.u++a)) l:=by
 rewrite [eV,eu]
 refine fP.C ?_;rcases f with⟨_,rfl,_⟩|⟨rfl,rfl,_⟩
 ·exact b.D l c
 ·refine(b.D l c).a λi i q e=>aL q λi g j=>?_;have:=(cs.mp j).1;rw[cj]at this;exact gE [_,_] [_] .F (.Eq .a (.b (.d .a) .r)) (.Eq .a (.b (.d .e) .r)) (.lt .e .a) [-1,1,1] e g this
def HQ (e:L k=z)(h:z<=10^12){F:E->Prop}(q:F (fT 0 z)):i6 (.y k) λf=>js [.e f] F:=by subst e;exact e5 h q
theorem abb (p:b4 q V){x:aW}{t:aq}{s u:j}{h i g:m}{E:bm}{F:b2}{K:bI}(G:ul dK o)(H:uj (jx q V) x)(I:x.L)(v:x.X<=3) (w:t.l[s]?=O (.y (qP x g))) (r:5*x.i+30<=f)(y:L dK+2*x.i<=896)(P:x.K F (eV t.u) E)
 (A:gY t k (x.e jw+8+u))(Q:∀l b n a,fI x (h,o) g d t.u b n a->cY t l a->gY l (k++(S.bw i::(b++[.a h])).map S.u) u->K (D (l.b (k++(S.bw i::(b++[.a h])).map S.u) n dK))):
 a' (aw q (mK q (V f) (z+9)) 9) [zH,zI,tT,zJ,zK,zL,zM] (cr (d7 B J x.u aF) M N (O (.e h)) (O (.e i)) (O (.c (aT s))) ao aJ bc bA b' cy co ci) (D (t.b k d dK)) (ch λe c=>K c):=by
 refine bx.mpr (aac.mpr (HM p (ck (.le (.y 4) .a) (.le (.b (.f 5 .e) (.y 30)) .a) r) (ex (.lt .a (.y 900000)) (.le (.b .a (.b (.b .e (.y 8)) .l)) (.y 850)) A.K) (bq (bx.mpr (aad.mpr (bq (bx.mpr (aa9 G (bq (bx.mpr (aag.mpr (fM (aU (show L dK+1<=900 by exact ck (.le (.b .a .r) (.y 900)) (.le (.b .a (.f 2 .e)) (.y 896)) y) ⋯) (bq (bx.mpr (aah.mpr (ba (bO w) (HQ aa8 (aU v ⋯) (aa5 p I 0 _ _ _ _ _ _ H aa aa w r (ck (.le (.b .a (.f 2 .e)) (.y 900)) (.le (.b .a (.f 2 .e)) (.y 896)) y) P (qN (aK:=1) A jy (iG (.le (.b .r (.b (.b .a (.f 2 .e)) (.b .r .l))) (.b (.b .a (.y 8)) .l)) (.le .e .L) [1,2] v)) λl b n a co ci R T C=>bq (bx.mpr (aan.mpr (ba (aiG ..) (bq (bx.mpr (aao.mpr ?_))))))))))))))))))))))));refine HL p (ck (.le (.y 4) .a) (.le (.b (.f 5 .e) (.y 30)) .a) r) (ck (.lt .a (.y 900000)) (.le (.b .a (.b .r .e)) (.y 850)) C.K) (bq ?_);have e:k++[(S.bw i).u]++b.map S.u++[(S.a h).u]=k++(S.bw i::(b++[.a h])).map S.u:=by refine(?_:_=k++(_::(b++[S.a h]).map S.u));rw[eu,bU,bU];rfl
 have:=Q l b n a R T (qN (aK:=1) C (by rw[<-e];exact jy) (br _));rw[<-e]at this;rw[HJ];exact this
def iN (h:aB.K aI (eV aj) bs):aB.K aI (eV (aj++dt)) bs:=by
 rewrite [eV,eu]
 have:=aW.aL (eB:=[]) (dt:=dt.map λp=>(p.1,0)) h;rw[ca]at this;exact this
def abc (a:∀p,p∈h.u->p.2=0\/p.2=32)(G:cY h am aj)(c:∀p,p∈aj->p.2=32):∀p,p∈am.u->p.2=0\/p.2=32:= λp b=>by rw[G.u]at b;exact(et.mp b).elim (a p) λa=>.inr (c p a)
theorem abd:∀{a:n (a3×m)},∀p,p∈l2 d a->p.2=32:=by
 intro a;induction a with
 |nil=>intro p h;cases h
 |cons r t b=>
  intro p h;have h:p∈j0 (ii d r.1)++l2 d t:=h;refine gQ (et.mp h) (λh=>?_) λh=>b p h
  ·cases e:ii d r.1 with
   |false=>rw[e]at h;cases h
   |true=>rw[e]at h;rw[cz.mp h]
def HR (h:(!bs)=af):bs=false:=by induction bs using fD<;>first|rfl|injection h
def HS (a:cI h)(G:cY h am aj):L am.d=L h.d+L aj:=by rw[G.b.W,G.u,a6,a.W]
section
set_option maxHeartbeats 1000000 in
theorem HT (A:b4 q V){i:aW}{g:x}{c:j}{ajw:m}{ajl:m×m}{ajm:bm}{ajn:b2}{K:bI}(ajx:ul I ajl.2)(N:uj (jx q V) i)(s:qH B aF g (eV h.u) i)(P:5*i.i+30<=f)(ajy:L I+2*i.i<=896)(ajz:i.K ajn (eV h.u) ajm)
 (u:gY h k (80+i.e jw+c))(ajA:∀t w M a,fI (.c B J aF g i) ajl ajw d h.u w M a->cY h t a->gY t (k++w.map S.u) c->K (D (t.b (k++w.map S.u) M I))):V (f+9+1) 1202 [bC,d7 B J i.u aF] (D (h.b k d I)) λo H=>K H:=by
 have Q:=u.K;have R:=u.W;have ajO:=s.d;refine A.e (C:=mK q (V f) (0+9)) (λo o o o z=>np A (i:=V f) (N:=f) (c:=0+9) (λo o o o z=>z) z) (ZN.mpr (bx.mpr (ZS.mpr (bq (bx.mpr (aa6 A u.b (ck (.le (.y 20) .a) (.le (.b (.f 5 .e) (.y 30)) .a) P) s.ld u.qt (ex (.lt (.b .a .r) (.y 800000)) (.le (.b .a (.b (.b (.y 80) .e) .l)) (.y 700000)) R) λv C F ajO ajO T y ajB ajC ajD=>bq ?_))))));have U:L F<=1/\∀p,p∈F->p.2=32:=by
  rcases T with⟨_,_,rfl⟩|⟨_,_,rfl⟩
  ·exact⟨fK _,λo z=>by cases z⟩
  ·exact⟨br _,λp z=>by rw[cz.mp z]⟩
 refine bx.mpr (Z1.mpr (hZ (ex (.lt .a (.y 900000)) (.le (.b .a (.b (.b (.y 80) .e) .l)) (.y 850)) Q) (bq (bx.mpr (Z2.mpr (bq (bx.mpr (Z3.mpr (bq (bx.mpr (Z4.mpr (l5 (h:=C) (bq (bx.mpr (Z5.mpr (aba (h:=C) (bq ?_)))))))))))))))));have W:((fW i (d+1+1)).map (·.1))=i.D.filter λl=>!eW l:=uk s.ep;have X:L (fW i (d+1+1))<=L i.D:=by rw[<-cj (f:=(·.1)),W];exact yf ..
 have Y:L i.D<=12:=s.X.1;refine bx.mpr (Z6.mpr (aaZ (f:=0) (h:=C) s.ep (d+1) (d+1) [] [] _ _ _ _ (g4 (he (m1 _)) (g4 s.X.1 ⋯)) (g4 (he (m1 _)) (g4 s.d ⋯)) λajO ajO ajO ajO=>bq (bx.mpr (aab.mpr ?_))));have ajo:=HS u.b y;have ajp:cY C (C.aa ([]++qP i (d+1+1)) (([]++fW i (d+1+1)).map j2)) []:=.C y.b;have ajq:L (k++[(S.r (.d B v (.K B J))).u])=L k+1:=jy;have ajr:∀r,r∈fW i (d+1+1)->r.1∈i.D/\eW r.1=false:= λr u=>by have:r.1∈(fW i (d+1+1)).map (·.1):=nI u;rw[W]at this;have:=rl.mp this;exact⟨this.1,HR this.2⟩
 have Z:fc ((fW i (d+1+1)).map (·.1))=fc i.D:=by rw[W,sj]
 refine A.c4 (show 0+25<=f by exact ck (.le (.b .K (.y 25)) .a) (.le (.b (.f 5 .e) (.y 30)) .a) P) (ZM A ajp.b (s:=fW i (d+1+1)) s.i ajB ajC ajD AX (λr u e=>?_) (λr u=>?_) (Z▸s.c) (λa b E N=>s.e a b (Z▸E) (Z▸N)) (k' (.le .a (.y 12)) (.le .a .e) (.le .e (.y 12)) X Y) (show L C.d+20<_ by exact hB [_,_,_,_,_] [] (.lt (.b .a (.y 20)) (.y 800000)) (.le (.b .e (.b (.b (.y 80) .l) .s)) (.y 700000)) (.le .X .r) (.l .a (.b .e .X)) R U.1 ajo) (kc (.lt .a (.y 900)) (.le (.b .e (.b (.b (.y 80) .l) .s)) (.y 850)) (.l .a (.b .e .r)) Q ajq) λt E b CS H ajs=>?_)
 ·have:=(ajr r u).2;rw[e]at this;injection this
 ·rw[y.u];exact w9 s T (ajr r u).1
 have G:=ajp.y ajs;have ajE:=y.y G;refine bd (aa7 H) λajF ajG=>?_;have ajH:=HS y.b G;have ajI:∀p,p∈E->p.2=32:=by refine ru H.C λo o o o e o o=>?_;rw[e];exact abd
 have ajt:t.u=h.u++F++E:=by rw[G.u,y.u];rfl
 have ajJ:L (k++[(S.r (.d B v (.K B J))).u]++b.map S.u)=L k+1+L b:=by rw[a6,ajq,cj]
 have ajK:gY t (k++[(S.r (.d B v (.K B J))).u]++b.map S.u) (i.e jw+8+c):=by have CS:L (([]:aO)++E)=L E:=aa;exact⟨G.b,m5 [_,_,_,_,_,_,_] [] (.le (.b .a (.b (.b .e (.y 8)) .l)) (.y 850)) (.le (.b .s (.b (.b (.y 80) .e) .l)) (.y 850)) (.le .X .ab) (.le .ab (.y 12)) (.le (.u 6) (.f 5 .X)) (.l .a (.b (.b .s .r) (.u 6))) [1,1,5,5,1,1] Q X Y ajF ajJ,Lp ajH CS ajG X Y ajo U.1 R,abc u.qt ajE λp OL=>((et.mp OL).elim (U.2 p) (ajI p))⟩
 refine bq (abb A (g:=d+1+1) (F:=ajn) (E:=ajm) (u:=c) ajx N s.ep s.d (iM ajs AW) P ajy ?_ ajK λajL w M aju ajv ajM OL=>?_)
 ·rw[ajt];exact iN (iN ajz)
 have ajN:k++[(S.r (.d B v (.K B J))).u]++b.map S.u++(S.bw (ft i (d+1+1) (d+1))::(w++[.a (d+1)])).map S.u=k++(S.r (.d B v (.K B J))::(b++.bw (ft i (d+1+1) (d+1))::(w++[.a (d+1)])):n S).map S.u:=by refine(?_:_=k++_::(b++_::(w++[S.a (d+1)])).map S.u);rw[eu,bU,bU];rfl
 rw[ajN]at OL⊢;rw[(lA (k8 (.a (.b (.b .a .r) .r) (.b .a .W))) (k8 (.a (.b .a .W) (.b (.b .a .r) .r))):d+1+1=d+2)]at OL⊢ajv H;refine ajA ajL _ M (F++E++aju) ⟨v,F,b,CS,E,w,aju,T,?_,ajt▸ajv,aa,aa⟩ ?_ OL
 ·rw[<-y.u];exact H
 ·rw[bU];exact y.y (G.y ajM)
end
theorem abe (S:b4 q V){k f e:m}{g:x}{a:aW}(h:uj (jx q V) a):jx q V (.c k f e g a):= λN C i s c j c c b c c K c l n d o p=>ui (d:=(5*a.i+30)+9+1+1+1) S i (ck (.le (.b (.b (.b (.b (.b (.b (.f 5 .a) (.y 30)) (.y 9)) .r) .r) .r) .r) .e) (.le (.b (.f 5 (.b .a .L)) (.y 30)) .e) l) (S.r (aaz.mpr (S.r (HG.mpr (HT S (.top j b.1 b.2) h d.1 (br _) (fE (.le (.b .a (.f 2 .e)) (.y 896)) (.le (.b .l (.f 2 (.b .e .L))) (.y 900)) (.l .a (.b .l .r)) n jy) d.2.2 o p)))))
theorem abf (S:b4 q V)(x:aW):(x.al->jx q V x)/\uj (jx q V) x:=by
 induction x with
 |l=>exact⟨λd=>aaG,bY⟩
 |C a b c e=>exact⟨λh=>aaH (c.1 h.1) (e.1 h.2),bY⟩
 |p t=>exact⟨λd=>aaJ S,bY⟩
 |o k f=>exact⟨λd=>aaI S,bY⟩
 |W f t=>exact⟨λd=>aaM S,bY⟩
 |h f b a=>exact⟨λd N C j s m n o g p r u K c v w i y z=>aaR S (a.1 i.2) N C j s m n o g p r u K c v w i y z,bY⟩
 |c k f c g s a=>exact⟨λd=>abe S a.2,bY⟩
 |d i b r e c=>exact⟨λh=>h.elim,e.1,c.2⟩
noncomputable abbrev ja (a:ac)(b c:be):aS:=[O (.h a),b,c]++iW 18 ab
abbrev A0 (a:ac->Q E)(C:aQ):x->Z->(be->bI)->Prop:=ni (ei (al a) C 12) (.q .Mod (.s 0) (.d (.e 1000000000))) (.s 0) [] [ab]
def abg:aw q A 9 wJ (ja ak M N) [] G=yv (al q) (.h ak) (.e 40) [] λx c=>kk c x λt=>hn (A0 q A) t (L c) t.a (c++[.y []]) λa=>G .next (ja ak (O (.c (L c))) N) a:=()
def abh:A0 q A (.e d) c ku=ku (O (.e (d.fmod 1000000000))) c:=()
noncomputable def A1:E:=[1,1,1,2,0,1,0,1,1,3,1,0,0,0,0,2,0,1,1,12,1,0,0,5,1,1,2,2,0,0,0,0,0,0,2,0,0].map x.e
def abi:aw q A 9 qw (ja ak (O (.c z)) N) c G=a7 c[z]? λo=>i6 o λm=>bB (an (m=0)) (mk c (.y A1) λa c=>G .next (ja ak (O a) N) c) (G .next (ja ak (O (.c z)) N) c):=()
abbrev A2 (a:ac->Q E)(C:aQ)(v:x):x->Z->(be->bI)->Prop:=ni (ei (al a) C 12) (.q .Mod (.q .Add (.q .FloorDiv (.bz (.s 1) (.q .Mod (.s 0) (.A .W [(.s 1)]))) (.q .Add (.s 0) (.d (.e 1)))) (.s 0)) (.d (.e 2))) (.s 0) [] [ab,O v]
def abj:aw q A 9 qx (ja ak (O p) N) c G=hn (A2 q A p) ⟨fT 0 6,ab⟩ (L c) (fT 0 6) (c++[.y []]) λa=>G .next (ja ak (O p) (O (.c (L c)))) a:=()
theorem abk:A2 q A (.c z) (.e d) c ku=a7 c[z]? λo=>i6 o λa=>dE (!an (a=0)) (a7 c[z]? λo=>gi (.e (d.fmod a)) o λp=>ng .FloorDiv p (.e (d+1)) c λy c=>ng .Add y (.e d) c λy c=>ng .Mod y (.e 2) c λy c=>ku (O y) c):=()
def fX (a:E):Prop:=L a=6/\∀p,p∈a->p=.e 0\/p=.e 1
def abl (i:m):i.fmod 2=0\/i.fmod 2=1:=by have a:=aiH i (show(0:m)<2 by decide);have b:=yc i (show(0:m)<2 by decide);exact Ln a b
def abm (c d:aX)(e:E)(a:E)(H:Z):Prop:=∀P:bI,(∀(f:j)(b:E),f+L a=6->a=fT f (L a)->L b=f->(∀p,p∈b->p=.e 0\/p=.e 1)->P [c,d,.y e,.y b])->P H
theorem abn (s:hI k 0)(w:∀t,fX t->dm [aZ,df,.y k,.y t]):hn (A2 q A (.c 2)) ⟨fT 0 6,ab⟩ 3 (fT 0 6) [aZ,df,.y k,.y []] dm:=by
 have n:(0:m)<L k:=KS.mpr s.o;refine An (fG:=⟨fT 0 6,ab⟩) (abm aZ df k) (λp r c K J y z=>?_) (λc J=>?_) λP K=>K 0 [] aa aa aa λy h=>(by cases h)
 ·apply J;intro f d b j l o;have j:p::r=.e f::fT (f+1) (L r):=j;injection j with B C
  subst B;have b:f+(L r+1)=6:=b;refine abk.mpr (ba (bW:=aX.y k) aa (fh (sR _▸cL (u6 n)) (ba (bW:=aX.y k) aa (bu (nG (KT (a:=f) (ow f) (mc n))) λD u=>?_))));have v:D<L k:=nB.mp (u▸yc f n);refine dU (s.X _ (KA v)) λi F G H=>?_;rw[u];refine ba (bW:=.e i) ((eM v).trans (cp O F)) ?_;refine fh (f0 (s4 (q9 G (ow _)) (jh H ⋯))) (fh (f0 (show f+1<=10^18 from aU (ck (.le (.b .a .r) (.y 6)) (.l (.b .a (.b .e .r)) (.y 6)) b) (by decide:6<=10^18))) (z _ _ d aa (aU (show L d+1<=6 by exact fE (.le (.b .a .r) (.y 6)) (.l .a .e) (.l (.b .e (.b .l .r)) (.y 6)) l b) ⋯) λP K=>K (f+1) (d++[x.e ((i.fdiv ((f:m)+1)+f).fmod 2)]) ((KR f 1 _).trans b) C (by rw[a6,l];rfl) λp g=>?_));rcases et.mp g with g|g
  ·exact o p g
  ·rw[cz.mp g];rcases abl (i.fdiv ((f:m)+1)+f)with e|e<;>rw[e]
   ·exact .inl aa
   ·exact .inr aa
 ·apply J;intro f d b j l o;exact w d ⟨l.trans b,o⟩
noncomputable def sk (a:m):x:=.e (a.fmod 1000000000)
def abo (h:0<L au):hI (au.map sk) 0:=by refine⟨by rw[cj];exact h,λp a=>?_,g2 _⟩;refine aL (f2.mp a) ?_;rintro i b rfl;exact⟨_,aa,aiH i ⋯,mc (yc i ⋯)⟩
theorem abp:hI A1 0:=by refine⟨⋯,λp a=>?_,g2 _⟩;refine aL (f2.mp a) ?_;rintro i b rfl;exact⟨i,aa,(by decide:∀i:Int,i∈([1,1,1,2,0,1,0,1,1,3,1,0,0,0,0,2,0,1,1,12,1,0,0,5,1,1,2,2,0,0,0,0,0,0,2,0,0]:bk)->0<=i/\i<=1000000000) i b⟩
theorem HU (e:c[f]?=O (.y k)) (a:(L k=0->a' (aw q A 9) dO (ja ak (O (.c (L c))) N) (c++[.y A1]) G)/\(L k≠0->a' (aw q A 9) dO (ja ak (O (.c f)) N) c G)):
 a' (aw q A 9) (qw::dO) (ja ak (O (.c f)) N) c G:=by
 exact bx.mpr (abi.mpr (ba e (fj (λh=>hY (bq (a.1 (Int.ofNat.inj (dT h))))) λh=>bq (a.2 λb=>iF h (cp Int.ofNat b)))))
def abq (t:bk)(a b:aX)(r:bk)(H:Z):Prop:=∀P:bI,(∀c:bk,c++r=t->P [a,b,.y (c.map sk)])->P H
theorem d1.K:∀b:bk,d1 aC (b.map x.e) (b.map x.e)
 |[]=>.l
 |i::b=>.a (.e i) (d1.K b)
theorem abr (e:q ak=O (au.map x.e))(D:L au<=63)(u:∀b M i l,(∀d,ej d b b)->(∀d,ej d M M)->hI i 0->fX l->a' (aw q A 9) dO (ja ak (O (.c 2)) (O (.c 3))) [b,M,.y i,.y l] G):
 a' (aw q A 9) (wJ::qw::qx::dO) (ja ak ab ab) [] G:=by
 have r:∀{b M i},(∀d,ej d b b)->(∀d,ej d M M)->hI i 0->a' (aw q A 9) (qx::dO) (ja ak (O (.c 2)) ab) [b,M,.y i] G:= λv w s=>
  bx.mpr (abj.mpr (abn s λl h=>bq (u _ _ _ l v w s h)))
 refine bx.mpr (abg.mpr (ba e ?_));induction au using cv with
 |nil=>exact k0 aa (show hX G (λp c=>a' (aw q A 9) (qw::qx::dO) p c G) .next (ja ak (O (.c 1)) ab) [.y [],.y []]from bq (HU (k:=[]) aa ⟨λg=>(r (λg=>.y .l) (λg=>.y .l) abp),λh=>b6 aa h⟩))
 |cons a t=>
  show mk [.b] (.y (((a::t).map x.e).take (40:m).toNat)) λa c=>kk c a λt=>hn (A0 q A) t (L c) t.a (c++[.y []]) λz=>hX G (λp c=>a' (aw q A 9) (qw::qx::dO) p c G) .next (ja ak (O (.c (L c))) ab) z;rw[List.map_take.symm];refine hY (Hd (fG:=⟨((a::t).take 40).map x.e,O 1⟩) (f:=2) (abq ((a::t).take 40) .b (.y (((a::t).take 40).map x.e))) (λy D c K J g B=>?_) (λc J=>?_) λP K=>K [] aa)
  ·apply J;intro j k
   ·have C:L j<=40:=by have:=cp L k;rw[a6,xY]at this;exact(nE (40) (L (a::t))).elim (λo=>fE (.le .a (.y 40)) (.l (.b .a .e) .l) (.l .l (.y 40)) this (xX o)) λo=>hB [_,_,_,_] [] (.le .a (.y 40)) (.l (.b .a .e) .l) (.le .s (.y 40)) (.l .l .s) this o (sJ o)
    refine⟨aa,abh.mpr (B _ _ (j.map sk) aa (aU (show L (j.map sk)+1<=41 by rw[cj];exact ec (.le (.b .a .r) (.y 41)) (.le .a (.y 40)) C) ⋯) λP K=>(eu (f:=sk) (l₂:=[y]))▸K (j++[y]) (by rw[bU];exact k))⟩
  ·apply J;intro j k;rw[ca]at k;subst k;exact⟨aa,bq (HU (k:=((a::t).take 40).map sk) aa ⟨λh=>b6 h (KW _),λg=>(r (λg=>.b) (λg=>.y (d1.K _)) (abo (au:=a::t.take 39) (vb _)))⟩)⟩
noncomputable abbrev A3:n Addr:=[1275,1235,599,1228,855,1132,1219,1087,1106,1216,1371,1310,1338]
abbrev ik (a:ac->Q E)(b:aQ)(n:j):aQ:=ie [] A3 b (al a) n
noncomputable abbrev eJ (a:ac)(b:be)(l:aS):aS:=O (.h a)::O (.c 2)::O (.c 3)::O (.c 4)::O (.c 5)::O (.c 18)::O (.e 4)::O (.c 63)::O (.c 72)::b::l
theorem abs:a' (aw q (ik q hK (f+9)) 9) (z'::Aa::Ab::Ac::Ad::Ae::Af::Ag::Ah::Ai::Aj::Ak::Al::dO) (ja ak (O (.c 2)) (O (.c 3))) [aZ,df,.y k,.y I] hu=
 a' (aw q (ik q hK (f+9)) 9) dO (eJ ak ab (iW 11 ab)) (D ⟨aZ,df,I,k,0,5,[],[],[],[],[],[]⟩) hu:=()
abbrev um (a:ac->Q E)(C:aQ):x->Z->(be->bI)->Prop:=ni (ei (al a) C 12) (.w 1275 [(.s 1),(.d (.e 0)),(.d (.e 0))]) (.s 0) [] [ab,O (.c 18)]
def abt:aw q A 9 wK (eJ ak ab ax) c G=A 1235 [.c 18,.e 2] c λv c=>cR v λi=>js [.e (1+i)] λa=>hn (um q A) ⟨a,ab⟩ (L c) a (c++[.y []]) λb=>G .next (eJ ak (O (.c (L c))) ax) b:=()
def HV:hn (um q A) ⟨k,ab⟩ f (p::I) c dm=A 1275 [.c 18,.e 0,.e 0] c λy c=>f5 c f λm=>fa (L m+1) (hn (um q A) ⟨k,ab⟩ f I (c.set f (.y (m++[y]))) dm):=()
def A4 (x:aW):po:= λp a a a=>x.e p
def gN.r (P:gN f lp bs h am aB):gN f (A4 aB) bs h am aB:=
 ⟨P.A,P.u,P.y,P.K,λa a a=>br _,P.i,P.ns⟩
def qQ (x:aW):Prop:=∀P:aW->Prop,(∀k f l g y,P (.c k f l g y))->(∀k f l g y a b c d e,P (.C (.c k f l g y) (.c a b c d e)))->P x
structure jb (s t:aq)(x:aW):Prop where
 a:gN 16 (A4 x) aN s t x
 b:qQ x
 e:∀a c,kq.aL c a->∃y z,y<=5/\z<=y/\x.e a<=a.a+c.l 1 5 y+(a.a+c.l 1 y z)
theorem jb.X (P:jb h am aB)(G:dI (h.i (.y k)) am):jb h (am.X (L h.l) aZ) aB:=⟨P.a.X G,P.b,P.e⟩
theorem abu (S:b4 q V)(Y:wP V 2){s:aq}{m c:j}{l:aS}(J:14<=m)(b:dH s)(v:s.left=5)(M:gu s (2*(8+6*jY 2)+c))
 (h:∀t x,jb s t x->gu t c->t.l[L s.l]?=O (.y x.u)->L x.u<=2->G .next (eJ ak (O (.c (L s.l+75))) l) (D t)):aw q (ik q (V m) (f+9)) 9 wK (eJ ak ab l) (D s) G:=by
 refine abt.mpr (S.c4 (show 0+1<=m by exact ec (.le (.b .K .r) .a) (.le (.y 14) .a) J) (kP S (c:=2) ⋯ b.c λw k p F n=>?_));have Z:dH (s.D k p):=b.D n;have h:∀t x,jb (s.D k p) t x->gu t c->t.l[L s.l]?=O (.y x.u)->L x.u<=2->G .next (eJ ak (O (.c (L s.l+75))) l) (D t):= λt x P=>h t x ⟨P.a.l (dI.D (k:=k) (d:=p)) aa aa,P.b,P.e⟩;have v:(s.D k p).left=5:=v;have M:gu (s.D k p) (2*(8+6*jY 2)+c):=M;refine Au (aU (show 1+w<=3 by exact ec (.le (.b .r .a) .L) (.lt .a .W) F) ⋯) ?_;clear b n;have h:∀t x,jb (s.D k p) t x->gu t c->t.l[L (s.D k p).l]?=O (.y x.u)->L x.u<=2->G .next (eJ ak (O (.c (L (D (s.D k p))))) l) (D t):=h;generalize s.D k p=s at*;have CS:∀(t:aq)(l:E)(K:E->Prop),dI (s.i (.y l)) t->L l<=1->K l->f5 (D t) (L (D s)) λm=>fa (L m+1) (K m):= λt l K g v w=>
  ki (n8 (qI g)) (fM (aU (gy v) ⋯) w)
 have H:gK s.left=5:=by rw[v];rfl
 have first:∀(N r:E)(Q:bI),(∀t a d e g x,gu t (8+6*jY 2+c)->gN 16 (λp t ak b=>p.a+t.l 1 ak b) aN (s.i (.y [])) t (.c a d e g x)->hn (um q (ik q (V m) (f+9))) ⟨N,ab⟩ (L (D s)) r (D (t.X (L s.l) (.y ([]++[.r [.e 9,cW a d,.r x.u,.e e]])))) Q)->
  hn (um q (ik q (V m) (f+9))) ⟨N,ab⟩ (L (D s)) (.e 0::r) (D s++[.y []]) Q:= λN r Q K=>by
  exact(HV (p:=.e 0)).mpr (S.c4 (show 3*2+8<=m by exact J) (Y 0 0 (s.i (.y [])) _ (8+6*jY 2+c) aa (.inl aa) Z.i (M.b (jl (.le (.b (.b (.y 8) (.f 6 .a)) (.b (.b (.y 8) (.f 6 .a)) .e)) (.b (.f 2 (.b (.y 8) (.f 6 .a))) .e)))) λt a d e g x A P=>CS t [] _ P.u (fK _) (K t a d e g x A P)))
 have F:w=0\/w=1:=(Nat.le_one_iff_eq_zero_or_eq_one.mp (B6 F));rcases F with rfl|rfl
 ·refine first _ [] _ λt a d e g x A P=>?_
  have o:=P.l (h:=s) .i aa aa;have B:=o.e;rw[H]at B;exact h (t.X (L s.l) (.y ([]++[.r [.e 9,cW a d,.r x.u,.e e]]))) (.c a d e g x) (jb.X (k:=[]) ⟨o.r,λP p h=>p _ _ _ _ _,λp I n=>⟨_,_,H▸lY o.u.left,br _,aU (B p I n) (cZ _ _)⟩⟩ P.u) (gu.b (h:=t.X _ _) A (ev _ _)) (kr (qI P.u)) (fJ 1)
 ·refine first _ [.e 1] _ λt a d e g x A P=>?_
  have o:=P.l (h:=s) .i aa aa;have B:=o.e;rw[H]at B;have R:=o.X (aZ:=.y ([]++[.r [.e 9,cW a d,.r x.u,.e e]])) P.u;refine(HV (p:=.e 1)).mpr (S.c4 (show 3*2+8<=m by exact J) (Y 0 0 (t.X (L s.l) _) _ c aa (.inl aa) R.A A λu T U W OL y ajl C=>?_));have X:dI (s.i (.y [.r [.e 9,cW a d,.r x.u,.e e]])) u:=by have i:=R.u.y C.u;refine⟨i.e,i.left,i.c,i.u,i.W,n7 (bu P.u.l λz ajm=>⟨z,(?_:t.l.set (L s.l) _=(s.l++[.y [_]])++z)⟩) C.u.l⟩;rw[ajm,show(s.i (.y [])).l=s.l++[.y []]from aa,bU,nH _ _ (br _),oJ,bU];rfl
  refine CS u [_] _ X (br _) ?_;have z:=R.r.C Z (Hg:=A4 (.C (.c a d e g x) (.c T U W OL y))) (λi i i i i i i i i=>br _) C.r;refine h (u.X (L s.l) (.y ([.r [.e 9,cW a d,.r x.u,.e e]]++[.r [.e 9,cW T U,.r y.u,.e W]]))) (.C (.c a d e g x) (.c T U W OL y)) (jb.X ⟨z,λP p h=>h _ _ _ _ _ _ _ _ _ _,λp I n=>⟨_,_,H▸lY o.u.left,lY C.u.left,vh (B p I n) (C.e p I n)⟩⟩ X) ajl (kr (qI X)) (br _)
def l6 (a:fR[z]?=O aZ):(c++fR)[L c+z]?=O aZ:=by rw[hh (cZ _ _),ox];exact a
def HW:(c++fR).set (L c+z) aZ=c++fR.set z aZ:=by rw[nH _ _ (cZ _ _),ox]
def un (a:L fR=z)(q:w (.c (L c+z)) (c++(fR++[aZ]))):mk (c++fR) aZ w:=by subst a;refine hY ?_;rw[a6,bU];exact q
theorem nt (a:fR[z]?=O (.a ak cg)) (b:(al q).x ak f=af)(d:kC (L cg) 100=af)(e:dm (c++fR.set z (.a ak (bF cg f p)))):vE (al q) (.c (L c+z)) f p (c++fR) dm:=
 ba (l6 a) (fh b (fh d (by rw[HW];exact e)))
def abv (a:fR[z]?=O (.a ak cg)) (b:(al q).x ak f=af)(d:bH cg f=O p)(e:cS p):gH (al q) (.c (L c+z)) f (c++fR) cS:=
 ba (l6 a) (fh b (ba d e))
def abw (a:fR[z]?=O (.h aI)) (b:L aI+1<=de)(q:dm (c++fR.set z (.h (bF aI d p)))):mp (.c (L c+z)) (.e d) p (c++fR) dm:=
 ba (l6 a) (fM b (by rw[HW];exact q))
def nu:aw q A 9 (.d (.x (.s 0) f) bV) (O p::ax) bb G=(ei (al q) A 13).a bV (O p::ax) bb λy bb=>vE (al q) p f y bb λbb=>G .next (O p::ax) bb:=()
def abx:aw q A 9 (.d (.bz (.x (.s 0) f) (.u bf)) (.w ak [])) (O p::ax) bb G=A ak [] bb λy bb=>gH (al q) p f bb λd=>mp d (.e bf) y bb λbb=>G .next (O p::ax) bb:=()
def aby (a:bK ak=O .a)(b:mk bb (.a ak []) w):bM bK (al q) A ak [] bb w:=ba a b
def abz:aw q A 9 tZ (eJ ak M (N::Y::ax)) bb G=A 599 [.c 63,.c 72] bb λy bb=>G .next (eJ ak M (N::O y::ax)) bb:=()
def abA:aw q A 9 tY (eJ ak M (N::ax)) (D h) G=G .next (eJ ak M (O (.e (L (x.C::h.d.map hV)))::ax)) (D h):=()
def abB:aw q A 9 t0 (eJ ak M (N::O p::ax)) bb G=A 1228 [p] bb λa bb=>G .next (eJ ak M (N::O p::ax)) bb:=()
def abC:aw q A 9 t1 (eJ ak M (N::O p::ax)) bb G=A 855 [p] bb λa bb=>G .next (eJ ak M (N::O p::ax)) bb:=()
def abD:aw q A 9 t2 (eJ ak M (N::O p::ax)) bb G=A 1132 [] bb λy bb=>gH (al q) p 58 bb λd=>mp d (.e 5) y bb λbb=>G .next (eJ ak M (N::O p::ax)) bb:=()
def abE:aw q A 9 t3 (eJ ak M (N::O p::Y::ax)) bb G=A 1219 [] bb λy bb=>G .next (eJ ak M (N::O p::O y::ax)) bb:=()
def abF:aw q A 9 t4 (eJ ak M (N::O p::O U::ax)) bb G=gH (al q) p 58 bb λd=>mp d (.e 9) U bb λbb=>G .next (eJ ak M (N::O p::O U::ax)) bb:=()
def abG:aw q A 9 t5 (eJ ak M (N::O p::ax)) bb G=A 1087 [] bb λy bb=>gH (al q) p 58 bb λd=>mp d (.e 10) y bb λbb=>G .next (eJ ak M (N::O p::ax)) bb:=()
def abH:aw q A 9 t6 (eJ ak M (N::O p::ax)) bb G=A 1106 [] bb λy bb=>gH (al q) p 58 bb λd=>mp d (.e 11) y bb λbb=>G .next (eJ ak M (N::O p::ax)) bb:=()
section
def sl (S:b4 q V)(a:bK ak=O .a)(b:L fR=iZ)(d:1<=bf)(k:w (.c (L c+iZ)) (c++(fR++[.a ak []]))):V bf ak [] (c++fR) w:=S.c4 d (S.r (f:=0) (aby a (un b k)))
def HX (e:fR[f]?=O df):(fR++[aZ])[f]?=O df:=by rw[ek (cs.mp e).1,e]
theorem uo (a:fR[0]?=O (.a 599 cg)) (b:(al q).x 599 el=af)(e:bH cg el=O (.c (L c+h7))) (f:fR[h7]?=O (.h aI)) (g:kC (L aI) 1000=af)(k:dm (c++fR.set h7 (.h (bF aI d p)))):gH (al q) (.c (L c+0)) el (c++fR) λaI=>mp aI (.e d) p (c++fR) dm:=
 abv (z:=0) a b e (abw f (aU (ea g) ⋯) k)
theorem nv (S:b4 q V)(a:bK ak=O .a) (b:fR[0]?=O (.a 599 cg)) (d:(al q).x 599 el=af)(e:bH cg el=O (.c (L c+h7))) (g:fR[h7]?=O (.h aI)) (h:L fR=iZ)(i:kC (L aI) 1000=af)
 (k:a' (aw q (V (f+1)) 9) dO (O (.c (L c+0))::ax) (c++(fR++[aX.a ak []]).set h7 (.h (bF aI bf (.c (L c+iZ))))) G):a' (aw q (V (f+1)) 9) (.d (.bz (.x (.s 0) el) (.u bf)) (.w ak [])::dO) (O (.c (L c+0))::ax) (c++fR) G:=
 bx.mpr (abx.mpr (sl S a h (gy (fK _)) (uo (HX b) d e (HX g) i (bq k))))
def HY:(ei (al q) A 13).a (.y []) ax bb w=mk bb (.y []) w:=()
def HZ:(ei (al q) A 13).a (.G 0) ax bb w=mk bb (.h []) w:=()
def abI:(ei (al q) A 13).a (.w ak []) ax bb w=A ak [] bb w:=()
noncomputable abbrev jc (b:j):n (j×x):=[(66,.c 63),(59,.c 4),(32,.c 5),(23,.c 72),(45,.c (b+1)),(34,.e 0),(60,.c (b+2)),(18,.c (b+3)),(58,.c (b+4)),(56,.c (b+5))]
def A5 (b:j):n aX:=[.a 599 (jc b),.y [],.y [],.h [],.h [],.a 536 []]
theorem abJ (S:b4 q V)(a:3<=bf)(k:w (.c (L (D h)+0)) (D h++A5 (L (D h)))):V bf 599 [.c 63,.c 72] (D h) w:=by refine S.c4 a (S.r (f:=2) ?_);show V 2 554 [.c (L (D h)+0),.c 63,.c 72] (D h++[aX.a 599 []]) λv bb=>oX v (w (.c (L (D h)+0)) bb);refine S.r ?_;show a' (aw q (V 1) 9) FO [O (.c (L (D h)+0)),O (.c 63),O (.c 72)] (D h++[aX.a 599 []]) (ch λv bb=>oX v (w (.c (L (D h)+0)) bb));exact bx.mpr (nu.mpr (nt (z:=0) aa aa aa (bq (bx.mpr (nu.mpr (nt (z:=0) aa aa aa (bq (bx.mpr (nu.mpr (nt (z:=0) aa aa aa (bq (bx.mpr (nu.mpr (nt (z:=0) aa aa aa (bq (bx.mpr (nu.mpr (HY.mpr (un (z:=1) aa (nt (z:=0) aa aa aa (bq (bx.mpr (nu.mpr (nt (z:=0) aa aa aa (bq (bx.mpr (nu.mpr (HY.mpr (un (z:=2) aa (nt (z:=0) aa aa aa (bq (bx.mpr (nu.mpr (HZ.mpr (un (z:=3) aa (nt (z:=0) aa aa aa (bq (bx.mpr (nu.mpr (HZ.mpr (un (z:=4) aa (nt (z:=0) aa aa aa (bq (bx.mpr (nu.mpr (abI.mpr (sl (iZ:=5) S aa aa (br _) (nt (z:=0) aa aa aa (bq k)))))))))))))))))))))))))))))))))))))))))))))))))
def A6 (b:j):n aX:=[.a 599 (jc b),.y [],.y [],
 .h [],.h [(1,.c (b+6)),(2,.c (b+7)),(3,.c (b+8)),(4,.c (b+9)),(12,.c (b+10)),(13,.c (b+11)),(16,.c (b+12)),(18,.c (b+13))],.a 536 [],.a 935 [],.a 954 [],.a 973 [],.a 992 [],.a 1011 [],.a 1030 [],.a 1049 [],.a 1068 []]
set_option maxHeartbeats 2000000 in
theorem abK (S:b4 q V)(a:3<=bf)(k:w .C (c++A6 (L c))):V bf 1228 [.c (L c+0)] (c++A5 (L c)) w:=by refine S.c4 a (S.r (f:=2) ?_);show a' (aw q (V 2) 9) Gr [O (.c (L c+0))] (c++A5 (L c)) (ch w);exact nv (bf:=1) (h7:=4) (iZ:=6) (aI:=[]) (cg:=jc (L c)) S () () () () () () () (nv (bf:=2) (h7:=4) (iZ:=7) (aI:=[(1,.c (L c+6))]) (cg:=jc (L c)) S () () () () () () () (nv (bf:=3) (h7:=4) (iZ:=8) (aI:=[(1,.c (L c+6)),(2,.c (L c+7))]) (cg:=jc (L c)) S () () () () () () () (nv (bf:=4) (h7:=4) (iZ:=9) (aI:=[(1,.c (L c+6)),(2,.c (L c+7)),(3,.c (L c+8))]) (cg:=jc (L c)) S () () () () () () () (nv (bf:=12) (h7:=4) (iZ:=10) (aI:=[(1,.c (L c+6)),(2,.c (L c+7)),(3,.c (L c+8)),(4,.c (L c+9))]) (cg:=jc (L c)) S () () () () () () () (nv (bf:=13) (h7:=4) (iZ:=11) (aI:=[(1,.c (L c+6)),(2,.c (L c+7)),(3,.c (L c+8)),(4,.c (L c+9)),(12,.c (L c+10))]) (cg:=jc (L c)) S () () () () () () () (nv (bf:=16) (h7:=4) (iZ:=12) (aI:=[(1,.c (L c+6)),(2,.c (L c+7)),(3,.c (L c+8)),(4,.c (L c+9)),(12,.c (L c+10)),(13,.c (L c+11))]) (cg:=jc (L c)) S () () () () () () () (nv (bf:=18) (h7:=4) (iZ:=13) (aI:=[(1,.c (L c+6)),(2,.c (L c+7)),(3,.c (L c+8)),(4,.c (L c+9)),(12,.c (L c+10)),(13,.c (L c+11)),(16,.c (L c+12))]) (cg:=jc (L c)) S () () () () () () () k)))))))
def abL (b:j):n aX:=[.a 599 (jc b),.y [],.y [],
 .h [(20,.c (b+14)),(21,.c (b+15))],.h [(1,.c (b+6)),(2,.c (b+7)),(3,.c (b+8)),(4,.c (b+9)),(12,.c (b+10)),(13,.c (b+11)),(16,.c (b+12)),(18,.c (b+13))],.a 536 [],.a 935 [],.a 954 [],.a 973 [],.a 992 [],.a 1011 [],.a 1030 [],.a 1049 [],.a 1068 [],.a 827 [],.a 846 []]
theorem abM (S:b4 q V)(a:3<=bf)(k:w .C (c++abL (L c))):V bf 855 [.c (L c+0)] (c++A6 (L c)) w:=by refine S.c4 a (S.r (f:=2) ?_);show a' (aw q (V 2) 9) FP [O (.c (L c+0))] (c++A6 (L c)) (ch w);exact nv (bf:=20) (h7:=3) (iZ:=14) (aI:=[]) (cg:=jc (L c)) S () () () () () () () (nv (bf:=21) (h7:=3) (iZ:=15) (aI:=[(20,.c (L c+14))]) (cg:=jc (L c)) S () () () () () () () k)
def qR (b:j):n aX:=[.a 599 (jc b),.y [],.y [],
 .h [(20,.c (b+14)),(21,.c (b+15))],.h [(1,.c (b+6)),(2,.c (b+7)),(3,.c (b+8)),(4,.c (b+9)),(12,.c (b+10)),(13,.c (b+11)),(16,.c (b+12)),(18,.c (b+13)),(5,.c (b+16)),(9,.c (b+17)),(10,.c (b+18)),(11,.c (b+19))],.a 536 [],.a 935 [],.a 954 [],.a 973 [],.a 992 [],.a 1011 [],.a 1030 [],.a 1049 [],.a 1068 [],.a 827 [],.a 846 [],.a 1132 [],.a 1219 [],.a 1087 [],.a 1106 []]
def mL (a:A3.any (f1 ak)=af)(h:V bf ak k bb w):ik q (V bf) (f+9) ak k bb w:=by show(match A3.any (f1 ak)with|true=>V bf ak k bb w|false=>_);rw[a];exact h
set_option maxHeartbeats 2000000 in
theorem abN (S:b4 q V){c:ac}{d:be}(a:3<=bf)(e:a' (aw q (ik q (V bf) (f+9)) 9) dO (eJ c d (O (.e (L (x.C::h.d.map hV)))::O (.c (L (D h)+0))::O (.c (L (D h)+17))::ax)) (D h++qR (L (D h))) G):
 a' (aw q (ik q (V bf) (f+9)) 9) (tY::tZ::t0::t1::t2::t3::t4::t5::t6::dO) (eJ c d (ab::ab::ab::ax)) (D h) G:=by
 refine bx.mpr (abA.mpr (bq (bx.mpr (abz.mpr (mL aa (abJ S a (bq (bx.mpr (abB.mpr (mL aa (abK S a (bq (bx.mpr (abC.mpr (mL aa (abM S a (bq (bx.mpr (abD.mpr ?_)))))))))))))))))));have b:1<=bf:=aU ⋯ a;exact mL aa (sl (iZ:=16) S aa () b (uo (h7:=4) (aI:=[(1,.c (L (D h)+6)),(2,.c (L (D h)+7)),(3,.c (L (D h)+8)),(4,.c (L (D h)+9)),(12,.c (L (D h)+10)),(13,.c (L (D h)+11)),(16,.c (L (D h)+12)),(18,.c (L (D h)+13))]) (cg:=jc (L (D h))) () () () () () (bq (bx.mpr (abE.mpr (mL aa (sl (iZ:=17) S aa () b (bq (bx.mpr (abF.mpr (uo (h7:=4) (aI:=[(1,.c (L (D h)+6)),(2,.c (L (D h)+7)),(3,.c (L (D h)+8)),(4,.c (L (D h)+9)),(12,.c (L (D h)+10)),(13,.c (L (D h)+11)),(16,.c (L (D h)+12)),(18,.c (L (D h)+13)),(5,.c (L (D h)+16))]) (cg:=jc (L (D h))) () () () () () (bq (bx.mpr (abG.mpr (mL aa (sl (iZ:=18) S aa () b (uo (h7:=4) (aI:=[(1,.c (L (D h)+6)),(2,.c (L (D h)+7)),(3,.c (L (D h)+8)),(4,.c (L (D h)+9)),(12,.c (L (D h)+10)),(13,.c (L (D h)+11)),(16,.c (L (D h)+12)),(18,.c (L (D h)+13)),(5,.c (L (D h)+16)),(9,.c (L (D h)+17))]) (cg:=jc (L (D h))) () () () () () (bq (bx.mpr (abH.mpr (mL aa (sl (iZ:=19) S aa () b (uo (h7:=4) (aI:=[(1,.c (L (D h)+6)),(2,.c (L (D h)+7)),(3,.c (L (D h)+8)),(4,.c (L (D h)+9)),(12,.c (L (D h)+10)),(13,.c (L (D h)+11)),(16,.c (L (D h)+12)),(18,.c (L (D h)+13)),(5,.c (L (D h)+16)),(9,.c (L (D h)+17)),(10,.c (L (D h)+18))]) (cg:=jc (L (D h))) () () () () () (bq e))))))))))))))))))))))))
end
structure eY (H:Z)(a:cd)(s:Z):Prop where
 d:a.Nodup
 W:L a=L s
 e:∀(i b:j) o,a[i]?=O b->s[i]?=O o->∃c,H[b]?=O c/\ej a o c
def eY.lt (h:eY c aC bb){i a:j} (e:aC[i]?=O a):a<L c:=by refine aL (h.e i a _ e (eM (h.W▸(cs.mp e).1))) λd b d=>?_;exact(cs.mp b).1
def eY.r (h:eY c aC bb){a:j}(e:a∈aC):a<L c:=bu (sS e) λi e=>h.lt e
structure H0 (H:Z)(d:cd)(f:Z)(g y:x)(b:Z)(c:cd):Prop where
 r:eY b c f
 ext:∃e,c=d++e/\∀j,j∈e->L H<=j
 val:dG c g y
 W:L H<=L b
 a:∀j,j<L H->j∉d->b[j]?=H[j]?
theorem w' (S:b4 q V){n:j}{f:ac}{l m:E}{H s:Z}{d:cd}{o:bg}(h:eY H d s)(g:d1 d m l)(r:V n f m s λx p=>∀y c i,H0 H d p x y c i->o y c):V n f l H o:=by
 refine S.frame h.d h.W h.e g (S.imp (λx p k y c i P=>k y c i ⟨⟨?_,?_,P.e⟩,⟨_,P.b,λa t=>by refine aL (f2.mp t) ?_;rintro k u rfl;exact cZ _ _⟩,P.val,by rw[P.W];exact cZ _ _,P.a⟩) r)
 ·rw[P.b];refine oH.mpr ⟨h.d,vi.mpr (KZ (λh e=>h (aiI e)) Cz),λa g b v e=>?_⟩;refine aL (f2.mp v) ?_;rintro k u rfl;exact g6 .F (.l .a (.b .e .l)) (.lt .a .e) [-1,1] e (h.r g)
 ·rw[P.b,a6,cj,kG,h.W];have:=P.aa;exact m6 [_,_,_] [] (.b .a .e) .l (.l (.b .e .a) .l) cc [1,-1] (dc (this))
theorem dG.ab (h:dG aC p U):dG (aC++l7) p U:=
 dG.rec (motive_1:= λp U c=>dG (aC++l7) p U) (motive_2:= λp U c=>d1 (aC++l7) p U) .C (λb=>.d b) (λi=>.e i) (λs=>.f s) (λa=>.h a) (λc=>.r)
   (λh=>.c ((ek (cs.mp h).1).trans h)) .l (λc c=>.a) h
theorem d1.ab (h:d1 aC k I):d1 (aC++l7) k I:=h.r .l λa b=>.a a.ab
theorem fO.ab (h:fO aC fg jA):fO (aC++l7) fg jA:=by
 induction h with
 |l=>exact .l
 |a h _ b=>exact .a h.ab b
theorem ej.ab (d:ej aC aZ df):ej (aC++l7) aZ df:=by
 induction d using ej.casesOn with
 |y d=>exact .y d.ab
 |h d=>exact .h d.ab
 |K d=>exact .K d.ab
 |c l=>exact .c l
 |a C d=>exact .a C d.ab
 |b=>exact .b
def dj (e:ct[f]?=O bW):(ct++nn)[f]?=O bW:=by rw[ek (cs.mp e).1];exact e
theorem eY.b (h:eY c aC bb)(m:f∉aC) (e:c[f]?=O df) (r:ej (aC++[f]) aZ df):eY c (aC++[f]) (bb++[aZ]):=by
 refine⟨oH.mpr ⟨h.d,pL.mpr ⟨m0,Cu⟩,λa d b g e=>m (cz.mp g▸e▸d)⟩,by rw[a6,a6,h.W];rfl,λi k x d g=>?_⟩;by_cases q:i<L aC
 ·rw[ek q]at d;rw[ek (h.W▸q)]at g;exact aL (h.e i k x d g) λl a b=>⟨l,a,b.ab⟩
 ·have l:=lC q;rw[hh l]at d;rw[hh (h.W▸l),<-h.W]at g;cases z:i-L aC with
  |zero=>rw[z]at d g;replace d:=aY d;subst d;replace g:=aY g;subst g;exact⟨df,e,r⟩
  |succ n=>rw[z]at d;injection d
def eY.u (h:eY c aC bb):eY (c++tJ) aC bb:=
 ⟨h.d,h.W,λi j o d e=>(h.e i j o d e).imp λ_ ⟨a,b⟩=>⟨dj a,b⟩⟩
def eY.X (h:eY c aC bb)(r:ej (aC++[L c]) aZ df):eY (c++[df]) (aC++[L c]) (bb++[aZ]):=
 (h.u (tJ:=[df])).b (λm=>pM _ (h.r m)) jz r
def px (m k:j):x->Bool:=k.rec (λv=>v.D af (r:= λi=>kC i m) (t:= λa=>aN)) λa f v=>v.D af (r:= λi=>kC i m) (t:=iq f)
def up (m:j)(l:n (ar×x)):Bool:=l.rec af λp a i=>match px m 9 p.2 with|true=>i|false=>aN
def uq (m:j)(o:aX):Bool:=match o with
 |.y l=>iq (px m 9) l
 |.h l=>up m l
 |.K l=>up m l
 |.a _ l=>up m l
 |_=>af
section
variable(py:∀r,r<f->aC[r]?=O r)
variable{mM:x->bm}
theorem H1 (c:∀b,mM b=af->dG aC b b):∀l,iq mM l=af->d1 aC l l:=by
 intro l;induction l with
 |nil=>intro a;exact .l
 |cons a l d=>
  intro h;have h:(match mM a with|true=>iq mM l|false=>aN)=true:=h;cases q:mM a with
  |true=>rw[q]at h;exact .a (c a q) (d h)
  |false=>rw[q]at h;injection h
include py
theorem H2:∀(n:j)(a:x),px f n a=af->dG aC a a:=by
 intro n;induction n with
 |zero=>intro a h;induction a using eh<;>first|exact b6 h k3|exact .c (py _ (ea h))|constructor
 |succ n b=>
  intro a h;induction a using eh with
  |c=>exact .c (py _ (ea h))
  |r l=>exact .r (H1 b l h)
  |C=>exact .C
  |d=>exact .d _
  |e=>exact .e _
  |f=>exact .f _
  |h=>exact .h _
theorem A7 (h:up f fg=af):fO aC fg fg:=by
 induction fg with
 |nil=>exact .l
 |cons p t a=>
  have h:(match px f 9 p.2 with|true=>up f t|false=>aN)=true:=h;cases q:px f 9 p.2 with
  |true=>rw[q]at h;exact .a (H2 py 9 _ q) (a h)
  |false=>rw[q]at h;injection h
theorem ur (h:uq f aZ=af):ej aC aZ aZ:=by
 induction aZ using hf with
 |y l=>exact .y (H1 (H2 py 9) l h)
 |h l=>exact .h (A7 py h)
 |K l=>exact .K (A7 py h)
 |c l=>exact .c l
 |a C l=>exact .a C (A7 py h)
 |b=>exact .b
end
theorem xa {a:aX->bm}(h:((c.drop f).take z).all a=af)(b:f<=aK)(d:aK<f+z) (e:c[aK]?=O aZ):a aZ=true:=by refine mZ.mp h aZ (jK (i:=aK-f) ?_);rw[yg (kc (.lt .a .e) (.lt .l (.b .s .e)) (.l (.b .a .s) .l) d (dc (b))),sX,sy b];exact e
def jd (t:aq):cd:=jI 75++((jI 20).map (L (D t)+·)++t.d.map (·+75))
noncomputable def j5 (t:aq):aq:={t with d:=(jI (L t.u)).map (·+20),l:=t.d.map λj=>(t.l[j]?).getD .b}
def H3 (a:f<75):(jd h)[f]?=O f:=by rw[ek (by rw[kG];exact a),sZ a]
def sm (a:f<20):(jd h)[75+f]?=O (L (D h)+f):=by rw[hh (by rw[kG];exact cZ _ _),kG,ox,ek (by rw[cj,kG];exact a),h4,sZ a];rfl
theorem H4:(jd h)[95+f]?=h.d[f]?.map (·+75):=by rw[hh (by rw[kG];exact em (.le (.y 75) (.b (.y 95) .a))),kG,show 95+f-75=20+f by exact k6 .a (.b (.y 20) .e) (.l (.b .a (.y 75)) (.b (.y 95) .e)) cc [1,-1] (dc (em (.le (.y 75) (.b (.y 95) .a)))),hh (by rw[cj,kG];exact cZ _ _),cj,kG,ox,h4]
theorem abO (b:dH h)(g:L h.u<800000):cI (j5 h):=by
 refine⟨⟨jI (L h.u),aa,by rw[kG];rfl,Cz,λi j k a c=>?_⟩,?_,?_⟩
 ·have d:i<L h.u:=(cs.mp c).1;rw[sZ d]at a;replace a:=aY a;subst a;obtain⟨j,f⟩:∃j,h.d[i]?=O j:=⟨_,eM (b.a.1▸d)⟩;refine bu (b.a.2.2 i j k f c) λl e=>⟨l,?_⟩;rw[h4,f];refine(?_:O ((h.l[j]?).getD .b)=_);rw[e];rfl
 ·rw[cj,kG];exact b.b
 ·rw[cj,kG];exact g
theorem abP (b:dH h):(jd h).Nodup:=by
 have f:L (D h)=L h.l+75:=aa;refine oH.mpr ⟨Cz,oH.mpr ⟨vi.mpr (KZ (λc e=>c (aiI e)) Cz),vi.mpr (KZ (λc e=>c (aiJ e)) b.a.2.1),λx d y a e=>?_⟩,λx d y a e=>?_⟩
 ·refine aL (f2.mp d) ?_;rintro k g rfl;refine aL (f2.mp a) ?_;rintro j c rfl;exact gE [_,_,_,_] [] .F (.l .a (.b .e (.y 75))) (.l (.b .a .l) (.b .s (.y 75))) (.lt .s .e) [-1,1,1] f e ((λj i=>b.a.lt i) j c)
 ·have i:=Ca.mp d;refine gQ (et.mp a) (λa=>?_) λa=>?_
  ·refine aL (f2.mp a) ?_;rintro k g rfl;exact gE [_,_,_,_] [] .F (.l .a (.b .e (.y 75))) (.lt .l (.y 75)) (.l .l (.b .a .s)) [-1,1,-1] f i e
  ·refine aL (f2.mp a) ?_;rintro j g rfl;exact lK .F (.lt .a (.y 75)) (.l .a (.b .e (.y 75))) [1,-1] i e
theorem xb:∀{l:E},(∀v,v∈l->cB 9 v=af)->d1 aC l l
 |[],_=>.l
 |v::t,h=>.a (nr 9 v (h v (db ..))) (xb λw a=>h w (dy _ a))
theorem A8:∀{l:n (ar×x)},(∀p,p∈l->cB 9 p.2=af)->fO aC l l
 |[],_=>.l
 |(_,_)::t,h=>.a (nr 9 _ (h _ (db ..))) (A8 λw a=>h w (dy _ a))
def abQ:∀{i:m} p,p∈hH i au->cB 9 p.2=true:=by
 induction au with
 |nil=>intro i p h;cases h
 |cons k r a=>intro i p h;cases h with|head=>rfl|tail _ h=>exact a p h
theorem abR (d:∀i,i<75->aC[i]?=O i) (g:∀k,k<20->aC[75+k]?=O (f+k)) {r:Z}{k:j}{o:aX}(b:k<20) (e:(AF [] 0 [] r)[k]?=O o):∃a,(qR f)[k]?=O a/\ej aC o a:=by
 have y:∀{k:j},kC k 20=af->dG aC (.c (75+k)) (.c (f+k)):= λh=>.c (g _ (ea h));have x:∀{k:j},kC k 75=af->dG aC (.c k) (.c k):= λh=>.c (d _ (ea h));by_cases a:5<=k
 ·refine⟨o,?_,ur (f:=0) (λi h=>b6 h (va i)) (xa (f:=5) (z:=15) (a:=uq 0) aa a (b) e)⟩;have c:∀l:Z,((l.drop 5).take 15)[k-5]?=l[k]?:= λl=>by rw[yg (aiK a b),sX,sy a]
  rw[<-e,<-c,<-c];exact(cp (·[k-5]?) (show((AF [] 0 [] r).drop 5).take 15=((qR f).drop 5).take 15 from aa)).symm
 have a:k=0\/k=1\/k=2\/k=3\/k=4:=(by decide:∀k,k<5->k=0\/k=1\/k=2\/k=3\/k=4) k (Nat.lt_of_not_le a);rcases a with rfl|rfl|rfl|rfl|rfl<;>(replace e:=aY e;subst e)
 ·exact⟨_,aa,.a _ (.a (x aa) (.a (x aa) (.a (x aa) (.a (x aa) (.a (y (k:=1) aa) (.a (.e 0) (.a (y (k:=2) aa) (.a (y (k:=3) aa) (.a (y (k:=4) aa) (.a (y (k:=5) aa) .l))))))))))⟩
 ·exact⟨_,aa,.y .l⟩
 ·exact⟨_,aa,.y .l⟩
 ·exact⟨_,aa,.h (.a (y (k:=14) aa) (.a (y (k:=15) aa) .l))⟩
 ·exact⟨_,aa,.h (.a (y (k:=6) aa) (.a (y (k:=7) aa) (.a (y (k:=8) aa) (.a (y (k:=9) aa) (.a (y (k:=10) aa) (.a (y (k:=11) aa) (.a (y (k:=12) aa) (.a (y (k:=13) aa) (.a (y (k:=16) aa) (.a (y (k:=17) aa) (.a (y (k:=18) aa) (.a (y (k:=19) aa) .l))))))))))))⟩
theorem H5:∀{l m:E},L l=L m->(∀(i:j) v w,l[i]?=O v->m[i]?=O w->dG aC v w)->d1 aC l m
 |[],[],_,_=>.l
 |v::l,w::m,a,h=>.a (h 0 v w aa aa) (H5 (Cr a) λi v w=>h (i+1) v w)
theorem abS (i:j)(h:i<75)(e:i≠65)(a:¬(4<=i/\i<16))(b:¬(18<=i/\i<65))(c:¬(66<=i/\i<73)):i=0\/i=1\/i=2\/i=3\/i=16\/i=17\/i=73\/i=74:=by
 by_cases x:i<4
 ·have:=(by decide:∀i,i<4->i=0\/i=1\/i=2\/i=3) i x;exact this.imp id λh=>h.imp id λh=>h.imp id .inl
 by_cases y:i<18
 ·have:=(by decide:∀i,i<18->16<=i->i=16\/i=17) i y (hw.mp λq=>a ⟨hw.mp x,q⟩);exact nM (this.imp id .inl)
 have:=(by decide:∀i,i<75->73<=i->i=73\/i=74) i h (hw.mp λq=>c ⟨Nat.lt_of_le_of_ne (hw.mp λq=>b ⟨hw.mp y,q⟩) e.symm,q⟩);exact pZ this
theorem abT (a:∀f,f<75->aC[f]?=O f) (b:dH h)(i:ej aC h.h h.h)(k:ej aC h.k h.k)(l:∀v,v∈h.e->cB 9 v=af)(m:f<75)(n:f≠65) (e:(D h)[f]?=O aZ):ej aC aZ aZ:=by
 by_cases c:4<=f/\f<16
 ·exact ur a (xa (f:=4) (z:=12) (a:=uq 75) aa c.1 c.2 e)
 by_cases d:18<=f/\f<65
 ·exact ur a (xa (f:=18) (z:=47) (a:=uq 75) aa d.1 d.2 e)
 by_cases g:66<=f/\f<73
 ·exact ur a (xa (f:=66) (z:=7) (a:=uq 75) aa g.1 g.2 e)
 have:f=0\/f=1\/f=2\/f=3\/f=16\/f=17\/f=73\/f=74:=abS f m n c d g;rcases this with rfl|rfl|rfl|rfl|rfl|rfl|rfl|rfl<;>(replace e:=aY e;subst e)
 ·exact i
 ·exact k
 ·exact .y (xb λv o=>by refine aL (b.c.X v o) ?_;rintro f rfl p;rfl)
 ·exact .y (xb l)
 ·exact .h (A8 abQ)
 ·exact .h (A8 b.d.2.1)
 ·exact .y (xb b.d.2.2)
 ·exact .y .l
theorem abU (b:dH h)(s:∀aC,ej aC h.h h.h)(t:∀aC,ej aC h.k h.k)(u:∀v,v∈h.e->cB 9 v=af):eY (D h++qR (L (D h))) (jd h) (D ((j5 h).b [] 0 [])):=by
 have n:=b.a.1;have p:∀i,i<75->(jd h)[i]?=O i:= λi f=>H3 f;have x:L (jd h)=75+(20+L h.d):=by delta jd;rw[a6,a6,cj,cj,kG,kG]
 refine⟨abP b,?_,λi j o c a=>?_⟩
 ·rw[x];refine(?_:_=L (h.d.map _)+20+75);rw[cj];exact rt [_] [] (.b (.y 75) (.b (.y 20) .a)) (.b (.b .a (.y 20)) (.y 75))
 by_cases m:i<75
 ·rw[p i m]at c;replace c:=aY c;subst c;by_cases e:i=65
  ·subst e;replace a:=aY a;subst a;refine⟨.y (.C::h.d.map hV),aa,.y (.a .C (H5 ?_ λi v w c a=>?_))⟩
   ·rewrite [cj,cj]
    refine(?_:L ((jI (L h.u)).map _)=_);rw[cj,kG,n]
   ·rw[h4]at c a;have c:(((jI (L h.u)).map (·+20))[i]?).map hV=O v:=c;rw[h4]at c;cases d:h.d[i]?with
    |none=>rw[d]at a;injection a
    |some j=>rw[d]at a;replace a:=aY a;subst a;rw[sZ (n▸(cs.mp d).1)]at c;replace c:=aY c;subst c;refine .c ?_;rw[show i+20+75=95+i by exact rt [_] [] (.b (.b .a (.y 20)) (.y 75)) (.b (.y 95) .a),H4,d];rfl
  ·have d:(D h)[i]?=O o:=by
    by_cases k:i<65
    ·rw[<-yg k];exact(by rw[yg k];exact a:((D ((j5 h).b [] 0 [])).take 65)[i]?=some o)
    ·have r:66<=i:=by exact(K0 e).elim (λq=>g5 [_] [] (.le (.y 66) .a) (.lt .a (.y 65)) (.b (.lt .a (.y 65))) [0,1,1] q k) λq=>q
     have g:∀l:Z,((l.drop 66).take 9)[i-66]?=l[i]?:= λl=>by rw[yg (aiK r m),sX,sy r]
     rw[<-g];exact(by rw[g];exact a:(((D ((j5 h).b [] 0 [])).drop 66).take 9)[i-66]?=some o)
   exact⟨o,dj d,abT p b (s _) (t _) u m e d⟩
 by_cases e:i<95
 ·obtain⟨k,rfl⟩:∃k,i=75+k:=⟨i-75,k6 .a (.b (.y 75) .e) (.l (.b .e (.y 75)) .a) [1,-1] cc (dc (ec (.le (.y 75) .a) (.b (.lt .a (.y 75))) m))⟩;rw[sm (by exact ec (.lt .a (.y 20)) (.lt (.b (.y 75) .a) (.y 95)) e)]at c;replace c:=aY c;subst c;rw[xN 75 k]at a;exact aL (abR p (λk f=>sm f) (ec (.lt .a (.y 20)) (.lt (.b (.y 75) .a) (.y 95)) e) a) λl d r=>⟨l,l6 d,r⟩
 ·obtain⟨k,rfl⟩:∃k,i=95+k:=⟨i-95,k6 .a (.b (.y 95) .e) (.l (.b .e (.y 95)) .a) [1,-1] cc (dc (ec (.le (.y 95) .a) (.b (.lt .a (.y 95))) e))⟩;rw[H4]at c;cases d:h.d[k]?with
  |none=>rw[d]at c;injection c
  |some q=>rw[d]at c;replace c:=aY c;subst c;rw[show 95+k=k+20+75 by exact rt [_] [] (.b (.y 95) .a) (.b (.b .a (.y 20)) (.y 75))]at a;have a:(h.d.map λj=>(h.l[j]?).getD .b)[k]?=O o:=a;rw[h4,d]at a;obtain⟨l,r⟩:∃l,h.u[k]?=O l:=⟨_,eM (n▸(cs.mp d).1)⟩;refine bu (b.a.2.2 k q l d r) λw g=>?_;have a:O ((h.l[q]?).getD .b)=O o:=a;rw[g]at a;replace a:=aY a;subst a;exact⟨_,dj (n8 g),ur (f:=0) (λi f=>b6 f (va i)) aa⟩
abbrev us (a:ac->Q E)(C:aQ):f4:= λp L c b=>(ei (al a) C 13).c (.s 13) p L c λL c=>a' (aw a C 8) [G8] L c b
def abV:aw q A 9 t7 (eJ ak (O aM) ax) c G=kk c aM λt=>ds (us q A) t t.a (eJ ak (O aM) ax) c G:=()
def abW:us q A p (eJ ak M (N::O U::O cC::Y::ax)) c G=a7 (hD (al q) cC (.d 37) c) λa=>jq (al q) A a cC [U,p] c λb c=>G .next (eJ ak M (N::O U::O cC::O p::ax)) c:=()
theorem abX (e:c[f]?=O (.a 1219 [])) (a:A 1216 [.c f,U,p] c λb c=>G .next (eJ ak M (N::O U::O (.c f)::O p::ax)) c):us q A p (eJ ak M (N::O U::O (.c f)::Y::ax)) c G:=by
 have:hD (al q) (.c f) (.d 37) c=O (.d 1216):=by refine(?_:c[f]?.bind _=_);rw[e];rfl
 refine abW.mpr (ba this a)
def ej.e (d:ej aC (.a ak []) aZ):aZ=.a ak []:=by cases d with|a _ d=>cases d;rfl
def xc:dG aC (cW d o) (cW d o):=nr 9 _ aa
def a3.aw (l:a3):dG aC l.u l.u:=by
 induction l using iD with
 |b k e f=>induction f using gA<;>exact nr 9 _ aa
 |_=>exact nr 9 _ aa
theorem H6.aw:∀a:n a3,d1 aC (a.map a3.u) (a.map a3.u)
 |[]=>.l
 |l::t=>.a l.aw (H6.aw t)
def e8.aw (t:e8):dG aC t.u t.u:=by induction t using mg<;>exact nr 9 _ aa
def d1.C (h:d1 aC k I)(b:d1 aC bj dK):d1 aC (k++bj) (I++dK):=by
 induction k generalizing I with
 |nil=>cases h;exact b
 |cons x k c=>cases h with|a p q=>exact .a p (c q)
theorem aW.aw (x:aW):d1 aC x.u x.u:=by
 induction x with
 |l=>exact .l
 |C a b f e=>exact f.C e
 |p t=>exact .a t.aw .l
 |o k f=>exact .a (nr 9 _ aa) .l
 |W f t=>exact .a (.r (.a (.e _) (.a xc (.a t.aw (.a .C .l))))) .l
 |h f b a=>exact .a (.r (.a (.e _) (.a xc (.a (.r (.a (.e _) (.a (.r a) (.a (.e _) .l)))) .l)))) .l
 |c k f g g s a=>exact .a (.r (.a (.e _) (.a xc (.a (.r a) (.a (.e _) .l))))) .l
 |d g b r e i=>exact .a (.r (.a (.r (H6.aw g)) (.a (.r e) .l))) i
theorem abY (n:b4 q V){s:aq}{o:E}{w z k f d:m}{g:x}{y:aW}{i:cd}{B F u:j}{H:b2}{Q:bI}(A:eY c i (D (s.b o w []))) (J:i[92]?=O B) (M:i[75]?=O F) (I:(aW.c k f d g y).K H (eV s.u) aN)(N:(aW.c k f d g y).i<=16)(T:gY s o ((aW.c k f d g y).e jw+u))
 (K:∀t l p a h r,fI (.c k f d g y) (0,0) z w s.u l p a->cY s t a->gY t (o++l.map S.u) u->eY h r (D (t.b (o++l.map S.u) p []))->(∃e,r=i++e/\∀b,b∈e->L c<=b)->L c<=L h->(∀b,b<L c->b∉i->h[b]?=c[b]?)->Q h):
 V 106 1216 [.c B,.c F,d7 k f y.u d] c λe c=>Q c:=by
 have e:y.i+3<=16:=N;exact w' n (m:=[.c 92,bC,d7 k f y.u d]) A (.a (.c J) (.a (.c M) (.a (.r (.a (.e _) (.a xc (.a (.r y.aw) (.a (.e _) .l))))) .l))) (n.r (HG.mpr (HT (f:=95) (ajn:=H) (ajm:=aN) (ajl:=(0,0)) (ajw:=z) (c:=u) n .l (abf n y).2 I.1 (lJ (.le (.b (.f 5 .a) (.y 30)) (.y 95)) (.le (.b .a .L) (.y 16)) [1,5] e) (show 0+2*y.i<=896 by exact lJ (.le (.b .K (.f 2 .a)) (.y 896)) (.le (.b .a .L) (.y 16)) [1,2] e) I.2.2 T λt l p a C G R v h r P=>K t l p a h r C G R P.r P.ext P.W P.a)))
structure H7 (t:aq)(x:aW)(B:j)(c:Z)(f:cd)(s:aq)(g:n S)(h:m)(a:aO):Prop where
 r:eY c f (D (s.b (g.map S.u) h []))
 ext:∃e,f=jd t++e
 H:fI x (0,0) 0 0 (j5 t).u g h a
 d:cY (j5 t) s a
 fe:c[B]?=O (.y x.u)
 b:B∉f
theorem eY.rule (A:eY c aC (D (h.b k d [])))(a:∃e,aC=jd am++e):aC[92]?=O (L (D am)+17)/\aC[75]?=O (L (D am)+0)/\c[L (D am)+17]?=O (.a 1219 []):=by refine bu a ?_;clear a;rintro e rfl;have b:(jd am++e)[92]?=O (L (D am)+17):=dj (sm (f:=17) ⋯);refine aL (A.e 92 _ (.a 1219 []) b aa) λo f r=>?_;rw[r.e]at f;exact⟨b,dj (sm (f:=0) ⋯),f⟩
theorem abZ (b:dH h) (e:h.l[f]?=O (.y k)):f+75∉jd h:=by
 have m:=(cs.mp e).1;intro a;refine gQ (et.mp a) (λa=>?_) λa=>?_
 ·have:=Ca.mp a;exact ec .F (.lt (.b .a (.y 75)) (.y 75)) this
 rcases et.mp a with a|a
 ·exact aL (f2.mp a) λc c e=>gE [_,_,_,_] [] .F (.lt .a .e) (.l (.b .l .s) (.b .a (.y 75))) (.l .l (.b .e (.y 75))) [1,1,-1] m e aa
 ·refine aL (f2.mp a) λg n o=>?_;have:g=f:=aiJ o;subst this;refine bu (sS n) λi l=>?_;obtain⟨d,p⟩:∃d,h.u[i]?=O d:=⟨_,eM (b.a.1▸(cs.mp l).1)⟩;refine bu (b.a.2.2 i g d l p) λq c=>?_;rw[e]at c;replace c:=aY c;injection c
theorem xd:∀{c:aO},(∀p,p∈c->p.2=0)->eV c=c
 |[],_=>aa
 |(a,b)::t,h=>by refine(?_:(a,0)::eV t=_);rw[xd λp d=>h p (dy _ d),(show b=0 from h _ (db ..))]
theorem A9 (I:b4 q V){t s:aq}{B:j}{o r:E}{p:E}{J k d h:m}{g:x}{y:aW}{w:cd}{P:j}(b:106<=z)(A:eY c w (D (s.b p J [])))(F:∃e,w=jd t++e)(W:(aW.c k d h g y).K t.W (eV s.u) aN)(X:(aW.c k d h g y).i<=16)(Z:gY s p ((aW.c k d h g y).e jw+P)) (H:c[B]?=O (.y o)) (Q:B∉w)
 (K:∀i l u a n v Y,fI (.c k d h g y) (0,0) 0 J s.u l u a->cY s i a->gY i (p++l.map S.u) P->eY n v (D (i.b (p++l.map S.u) u []))->(∃e,v=jd t++e)->n[B]?=O (.y o)->B∉v->
  ds (us q (ik q (V z) (f+9))) ⟨o,O B⟩ r (eJ ak M (N::O (.c (L (D t)+0))::O (.c (L (D t)+17))::O Y::ax)) n G):
 ds (us q (ik q (V z) (f+9))) ⟨o,O B⟩ (d7 k d y.u h::r) (eJ ak M (N::O (.c (L (D t)+0))::O (.c (L (D t)+17))::Y::ax)) c G:=by
 refine c9 (A.rule F) λCS OL ajl=>k0 H (abX ajl (mL aa (I.c4 b (abY (z:=0) I A CS OL W X Z λi l u a n v C ajm R ajn T ajr ajo=>?_))));have U:=(cs.mp H).1;refine aL T ?_;clear T;rintro e rfl ajp;refine bu F ?_;clear F;rintro ajq rfl;refine K i l u a n _ _ C ajm R ajn ⟨ajq++e,bU ..⟩ (by rw[ajo B U Q];exact H) λb=>gQ (et.mp b) (λb=>Q b) λb=>?_
 ·have:=ajp B b;exact k' .F (.lt .a .e) (.le .e .a) U this
theorem ab0 (B:b4 q V){t:aq}{x:aW}{m:j}(F:106<=z)(b:dH t)(P:x.K t.W t.u aN)(ajl:qQ x)(h:x.i<=16) (H:t.l[m]?=O (.y x.u)) (A:eY (D t++qR (L (D t))) (jd t) (D ((j5 t).b [] 0 [])))(n:gY (j5 t) [] (x.e jw))
 (K:∀c u s d o a Y,H7 t x (m+75) c u s d o a->a' (aw q (ik q (V z) (f+9)) 9) dO (eJ ak (O (.c (m+75))) (N::O (.c (L (D t)+0))::O (.c (L (D t)+17))::O Y::ax)) c G):
 a' (aw q (ik q (V z) (f+9)) 9) (t7::dO) (eJ ak (O (.c (m+75))) (N::O (.c (L (D t)+0))::O (.c (L (D t)+17))::Y::ax)) (D t++qR (L (D t))) G:=by
 have i:(D t++qR (L (D t)))[m+75]?=O (.y x.u):=dj (n8 H);have p:=abZ b H;have l:x.K t.W (eV (j5 t).u) false:=by refine(?_:x.K t.W (eV t.u) aN);rw[xd b.d.1];exact P
 have Q:∃e,jd t=jd t++e:=⟨[],(ca _).symm⟩;refine bx.mpr (abV.mpr (ba i ?_));revert K n h l i p;clear P H;apply ajl
 ·intro k ajm ajn g y h n K i p l;exact A9 (P:=0) (r:=[]) B F A Q l h n i p λs d o a c u Y C r R I J v M=>⟨v,bq (K c u s d o a Y ⟨I,J,C,r,v,M⟩)⟩
 ·intro k ajm ajn g y T U W ajo X h n K i p l;refine A9 (P:=(aW.c T U W ajo X).e jw) (r:=[d7 T U X.u W]) B F A Q l.1 ((pT.mp h).1) n i p λs d o a c u Y C r R I J v M=>A9 (P:=0) (r:=[]) B F I J (by rw[r.u];exact iN l.2) ((pT.mp h).2) R v M λajp w ajq Z ajr ajs Y ajt aju ajx CS ajv OL ajw=>?_;rw[(by rw(config:={}) [List.nil_append,eu]:(([]:E)++d.map S.u++w.map S.u)=(d++w).map S.u)]at CS;exact⟨OL,bq (K ajr ajs ajp (d++w) ajq (a++Z) Y ⟨CS,ajv,⟨d,o,a,w,Z,C,r.u▸ajt,aa,aa⟩,r.y aju,OL,ajw⟩)⟩
open Internal.aE renaming casesOn->s0
def kT (v:x):Prop:=∀a y,dG a v v/\(dG a v y->y=v)
def gZ (l:E):Prop:=∀a m,d1 a l l/\(d1 a l m->m=l)
theorem kT.cB (n:j)(h:cB n p=af):kT p:= λa y=>⟨nr n p h,AH n p h y⟩
theorem gZ.l:gZ []:= λa a=>⟨.l,λh=>by cases h;rfl⟩
theorem gZ.a (h:kT p)(d:gZ k):gZ (p::k):= λc m=>⟨.a (h c p).1 (d c k).1,λr=>by cases r with|a e b=>rw[(h c _).2 e,(d c _).2 b]⟩
theorem kT.r (h:gZ k):kT (.r k):= λa y=>⟨.r (h a k).1,λr=>by cases r with|r r=>rw[(h a _).2 r]⟩
theorem gZ.C (h:gZ k)(e:gZ I):gZ (k++I):=by
 induction k with
 |nil=>exact e
 |cons v k f=>
  have g:kT v:= λc y=>⟨by have:=(h c (v::k)).1;cases this with|a d _=>exact d,λr=>by have:=(h c (y::k)).2 (.a r (by have:=(h c (v::k)).1;cases this with|a _ b=>exact b));injection this⟩
  have i:gZ k:= λc I=>⟨by have:=(h c (v::k)).1;cases this with|a _ b=>exact b,λr=>by have:=(h c (v::I)).2 (.a (by have:=(h c (v::k)).1;cases this with|a d _=>exact d) r);injection this⟩
  exact .a g (f i)
def gZ.W (h:∀v,v∈k->kT v):gZ k:=by
 induction k with
 |nil=>exact .l
 |cons v k a=>exact .a (h v (db ..)) (a λw b=>h w (dy _ b))
theorem kT.e:kT (.e d):=.cB 0 aa
def ajh:kT (cW d o):=.cB 9 aa
def kv (h:bW∈[b8,tP]):bW=b8\/bW=tP:=(fw.mp h).imp id cz.mp
def aE.aw (e:aE):Prop:=e.aN (λa x=>cB 9 x=af) fZ fZ id id And
theorem aE.an:∀{e:aE},e.aw->kT e.u:=by
 intro e;have n:∀{j:x},cB 9 j=af->kT j:= λg=>.cB 9 g;induction e with
 |p k a=>intro g;exact .r (.a (n aa) (.a (n aa) (.a (n g) .l)))
 |h k l=>intro m;exact n aa
 |K k f=>intro m;exact n aa
 |conv k e c f=>intro g;exact .r (.a (n aa) (.a (n aa) (.a (f g) (.a (n aa) (.a (n aa) .l)))))
 |q k o a b c i=>intro g;exact .r (.a (n aa) (.a (n aa) (.a (n aa) (.a (c g.1) (.a (i g.2) (.a (n aa) .l))))))
 |t a b c i=>intro g;exact .r (.a (n aa) (.a (n aa) (.a (c g.1) (.a (i g.2) .l))))
 |z a f=>intro g;exact .r (.a (n aa) (.a (n aa) (.a (n aa) (.a (f g) (.a (n aa) .l)))))
 |is e k f=>intro g;exact .r (.a (n aa) (.a (n aa) (.a (f g) (.a (n aa) (.a (n aa) .l)))))
 |v k e f=>intro g;exact .r (.a (n aa) (.a (n aa) (.a (f g) .l)))
 |d k l e f=>intro g;exact .r (.a (n aa) (.a (n aa) (.a (n aa) (.a (f g) .l))))
 |w a e c f=>intro g;exact .r (.a (n aa) (.a (n aa) (.a (.r (.a (c g.1) .l)) (.a (f g.2) .l))))
 |A k e f=>intro g;exact .r (.a (n aa) (.a (n aa) (.a (f g) (.a (n aa) (.a (n aa) (.a (n aa) .l))))))
 |G o k e f=>intro g;exact .r (.a (n aa) (.a (n aa) (.a (f g) (.a (n aa) (.a (n aa) (.a (n aa) .l))))))
 |B a b c i=>intro g;exact .r (.a (n aa) (.a (n aa) (.a (n aa) (.a (n aa) (.a (.r (.a (c g.1) (.a (i g.2) .l))) (.a (n aa) .l))))))
def ab1 (h:∀a:j,a<L c->bb[a]?=c[a]?):bb=c++bb.drop (L c):=by
 refine KX λa=>?_;by_cases b:a<L c
 ·rw[ek b];exact h a b
 ·rw[hh (lC b),sX,sy (lC b)]
theorem ab2 (S:b4 q V){d:ac}{a:E}{H:Z}{l:E}(m:gZ a)(n:gZ l) (h:V f d a [] λx k=>∃i,x=.c i/\k[i]?=O (.y l)) (p:∀g j,(H++g)[j]?=O (.y l)->w (.c j) (H++g)):V f d a H w:=by
 refine S.frame (c:=[]) (g:=[]) Cu aa (λi j o e=>by injection e) (m [] a).1 (S.imp (λx k e u u o P=>?_) h);refine aL e ?_;clear e;rintro i rfl s;have v:=P.val;cases v with
 | @c _ j t=>
   refine aL (P.e i j _ t s) λu b r=>?_;cases r with
   |y r=>rw[(n o _).2 r]at b;rw[(ab1 λj h=>P.a j h m0)]at b⊢;exact p _ j b
noncomputable def aE.al (e:aE):n aE:=match e with
 |.p _ _=>[]
 |.h _ _=>[]
 |.K _ _=>[]
 |.conv _ e _=>[e]
 |.q _ _ a b=>[a,b]
 |.t a b=>[a,b]
 |.z a=>[a]
 |.is e _=>[e]
 |.v _ e=>[e]
 |.d k l e=>[.h k l,e]
 |.w a e=>[a,e]
 |.A _ e=>[e]
 |.G _ _ e=>[e]
 |.B a b=>[a,b]
theorem aE.aP (e:bP.aw)(f:nw∈bP.al):nw.aw:=by
 cases bP with
 |p=>cases f
 |h=>cases f
 |K=>cases f
 |conv k bP c=>rw[cz.mp f];exact e
 |z a=>rw[cz.mp f];exact e
 |is bP k=>rw[cz.mp f];exact e
 |v k bP=>rw[cz.mp f];exact e
 |A k bP=>rw[cz.mp f];exact e
 |G b k bP=>rw[cz.mp f];exact e
 |q k o a b=>rcases kv f with rfl|rfl<;>first|exact e.1|exact e.2
 |t a b=>rcases kv f with rfl|rfl<;>first|exact e.1|exact e.2
 |w a b=>rcases kv f with rfl|rfl<;>first|exact e.1|exact e.2
 |B a b=>rcases kv f with rfl|rfl<;>first|exact e.1|exact e.2
 |d k l bP=>rcases kv f with rfl|rfl<;>first|exact bY|exact e
noncomputable def mN:aX:=.h [(8,.r [.r [.e 2,.e 0],.r [.e 4,.e 1]]),(13,.r [.r [.e 3,.e 0]]),(14,.r [.r [.e 3,.e 0],.r [.e 4,.e 0]]),(15,.r [.r [.e 2,.e 0],.r [.e 3,.e 0]]),
 (19,.r [.r [.e 2,.e 0]]),(20,.r [.r [.e 2,.e 0]]),(21,.r [.r [.e 2,.e 0]]),(22,.r [.r [.e 2,.e 0],.r [.e 3,.e 0]]),(31,.r [.r [.e 2,.e 1],.r [.e 3,.e 0]])]
def A' (a:d=1\/d=2\/d=5):bM bK (al q) A 1289 [.r [.e d,.e o,p]] [] w↔w (.c 1) [mN,.y []]:=by rcases a with rfl|rfl|rfl<;>exact f3 ()
def ab3:bM bK (al q) A 1289 [.r [.e 19,.e d,.r k,.e o,.e 0]] [] w=w (.c 1) [mN,.y [.r k]]:=()
def ab4:bM bK (al q) A 1289 [.r [.e 14,.e d,p,.r k,.r I,.e 0]] [] w=w (.c 1) [mN,.y [.r k,.r I]]:=()
def ab5:bM bK (al q) A 1289 [.r [.e 15,.e 1,.r k,.r I]] [] w=w (.c 1) [mN,.y [.r k,.r I]]:=()
def ab6:bM bK (al q) A 1289 [.r [.e 13,.e 1,p,.r k,.e 0]] [] w=w (.c 1) [mN,.y [.r k]]:=()
def ab7:bM bK (al q) A 1289 [.r [.e 20,.e 1,.r k,.e d,.e 0]] [] w=w (.c 1) [mN,.y [.r k]]:=()
def ab8:bM bK (al q) A 1289 [.r [.e 21,.e d,.r k]] [] w=w (.c 1) [mN,.y [.r k]]:=()
def ab9:bM bK (al q) A 1289 [.r [.e 22,.e d,.r k,.r I]] [] w=w (.c 1) [mN,.y [.r k,.r I]]:=()
def aca:bM bK (al q) A 1289 [.r [.e 31,.e 1,.r [.r k],.r I]] [] w=w (.c 3) [mN,.y [],.y [.r k],.y [.r k,.r I]]:=()
def H8:bM bK (al q) A 1289 [.r [.e 8,.e d,.r k,p,.r [],.e 0]] [] w=w (.c 3) [mN,.y [.r k],.y [],.y [.r k]]:=()
def acb:bM bK (al q) A 1289 [.r [.e 8,.e 1,.C,p,.r [.r k,.r I],.e 0]] [] w=w (.c 3) [mN,.y [],.y [.r k,.r I],.y [.r k,.r I]]:=()
theorem aE.r (e:aE):∃l,e.u=.r l:=by induction e using s0<;>exact⟨_,aa⟩
theorem acc (e:aE) (d:∀i g,g[i]?=O (.y (e.al.map aE.u))->w (.c i) g):bM bK (al q) A 1289 [e.u] [] w:=by
 cases e with
 |p k x=>exact(A' (.inl aa)).mpr (d _ _ aa)
 |h k l=>exact(A' (.inr (.inl aa))).mpr (d _ _ aa)
 |K k f=>exact(A' (ey aa)).mpr (d _ _ aa)
 |conv k e c=>refine bu e.r λl h=>?_;have:=ab3 (q:=q) (A:=A) (w:=w) (d:=k) (o:=c) (k:=l);rw[<-h]at this;exact this.mpr (d _ _ aa)
 |q k o a b=>refine bu a.r λl h=>bu b.r λm c=>?_;have:=ab4 (q:=q) (A:=A) (w:=w) (d:=k) (p:=.f (bG o)) (k:=l) (I:=m);rw[<-h,<-c]at this;exact this.mpr (d _ _ aa)
 |t a b=>refine bu a.r λl h=>bu b.r λm c=>?_;have:=ab5 (q:=q) (A:=A) (w:=w) (k:=l) (I:=m);rw[<-h,<-c]at this;exact this.mpr (d _ _ aa)
 |z a=>refine bu a.r λl h=>?_;have:=ab6 (q:=q) (A:=A) (w:=w) (p:=.f (bG 88)) (k:=l);rw[<-h]at this;exact this.mpr (d _ _ aa)
 |is e k=>refine bu e.r λl h=>?_;have:=ab7 (q:=q) (A:=A) (w:=w) (d:=k) (k:=l);rw[<-h]at this;exact this.mpr (d _ _ aa)
 |v k e=>refine bu e.r λl h=>?_;have:=ab8 (q:=q) (A:=A) (w:=w) (d:=k) (k:=l);rw[<-h]at this;exact this.mpr (d _ _ aa)
 |d k l e=>refine bu e.r λm h=>?_;have:=ab9 (q:=q) (A:=A) (w:=w) (d:=k) (k:=[.e 2,.e k,.e l]) (I:=m);rw[<-h]at this;exact this.mpr (d _ _ aa)
 |w a e=>refine bu a.r λl h=>bu e.r λm c=>?_;have:=aca (q:=q) (A:=A) (w:=w) (k:=l) (I:=m);rw[<-h,<-c]at this;exact this.mpr (d _ _ aa)
 |A k e=>refine bu e.r λl h=>?_;have:=H8 (q:=q) (A:=A) (w:=w) (d:=1) (p:=.r [.e k,.e 66,.r []]) (k:=l);rw[<-h]at this;exact this.mpr (d _ _ aa)
 |G f k e=>refine bu e.r λl h=>?_;have:=H8 (q:=q) (A:=A) (w:=w) (d:=f) (p:=.r [.e k,.e 68,.r []]) (k:=l);rw[<-h]at this;exact this.mpr (d _ _ aa)
 |B a b=>refine bu a.r λl h=>bu b.r λm c=>?_;have:=acb (q:=q) (A:=A) (w:=w) (p:=.r [.e 13,.e 13,.r []]) (k:=l) (I:=m);rw[<-h,<-c]at this;exact this.mpr (d _ _ aa)
theorem Ba (S:b4 q V){e:aE}(a:e.aw){H:Z} (b:∀g j,(H++g)[j]?=O (.y (e.al.map aE.u))->w (.c j) (H++g)):V 1 1289 [e.u] H w:=
 ab2 S (.a (aE.an a) .l) (gZ.W λv c=>by refine aL (f2.mp c) ?_;rintro x d rfl;exact aE.an (aE.aP a d)) (S.r (acc e λi f h=>⟨i,aa,h⟩)) b
noncomputable abbrev fl (v:x)(a b c d e:be):aS:=[O (.c 18),O v,a,b,c,d,e]
abbrev h1:n H:=[G2,G3,G4,G5,z3,z4,z5,z6,z7,z8,z9]
def acd:bM bK (al q) A 1364 [.c 18,p] c w=a' (aw q A 9) (z0::z1::wH::h1) (fl p ab ab ab ab ab) c (ch w):=()
abbrev H9 (a:ac->Q E)(C:aQ):f4:= λp L c w=>(ei (al a) C 13).c (.s 2) p L c λL c=>a' (aw a C 8) [G1] L c w
def ace:aw q A 9 z0 (fl p M N Y ag ah) c G=A 1289 [p] c λU c=>kk c U λaM=>ds (H9 q A) aM aM.a (fl p M N Y ag ah) c G:=()
def acf:H9 q A U (fl p M N Y ag ah) c G=A 1364 [.c 18,U] c λcx c=>a7 (li c cx) λcx=>bB (!cx) (G (.c (.d aN)) (fl p (O U) N Y ag ah) c) (G .next (fl p (O U) N Y ag ah) c):=()
def acg:aw q A 9 z1 (fl (.r (.e B::.e d::bj)) M N Y ag ah) c G=G .next (fl (.r (.e B::.e d::bj)) M (O (.e B)) (O (.e d)) ag ah) c:=()
abbrev Bb (a:ac->Q E)(C:aQ):x->Z->(be->bI)->Prop:=ni (ei (al a) C 12) (.bz (.s 0) (.d (.e 1))) (.s 0) [] [ab]
def ach:aw q A 9 wH (fl p M N Y ag ah) c G=A 1289 [p] c λU c=>kk c U λaM=>hn (Bb q A) aM (L c) aM.a (c++[.y []]) λa=>G .next (fl p M N Y (O (.c (L c))) ah) a:=()
def aci:Bb q A (.r (.e B::.e d::bj)) c ku=ku (O (.e d)) c:=()
def acj:a' (aw q A 9) h1 (fl (.r [.e 1,.e d,.C]) M (O (.e 1)) (O (.e d)) ag ah) c (ch w)=A 1359 [.e d] c w:=()
def ack:a' (aw q A 9) h1 (fl (.r [.e 1,.e d,.f a9]) M (O (.e 1)) (O (.e d)) ag ah) c (ch w)=w (.d (an (d=13))) c:=()
def acl:a' (aw q A 9) h1 (fl (.r [.e 1,.e d,.e o]) M (O (.e 1)) (O (.e d)) ag ah) c (ch w)=lO c (.e d) [.e 1,.e 7,.e 8,.e 9,.e 10] λcx=>w (.d cx) c:=()
theorem acm:a' (aw q A 9) h1 (fl (.r [.e 2,.e d,.e o]) M (O (.e 2)) (O (.e d)) ag ah) (D (h.b k bo I)) (ch w)=a7 (dD (.C::h.d.map hV) o) λz=>gH (al q) z 31 (D (h.b k bo I)) λaF=>dg (D (h.b k bo I)) aF (.e d) λcx=>w (.d cx) (D (h.b k bo I)):=()
theorem acn:a' (aw q A 9) h1 (fl (cW d J) M (O (.e 5)) (O (.e d)) ag ah) (D (h.b k bo I)) (ch w)=a7 (bH (hH 1000 h.c) J) λaF=>dg (D (h.b k bo I)) aF (.e d) λcx=>w (.d cx) (D (h.b k bo I)):=()
theorem H' (a:B=13\/B=15):a' (aw q A 9) h1 (fl (.r (.e B::.e 1::bj)) M (O (.e B)) (O (.e 1)) (O (.c z)) ah) c (ch w)↔mk c (.y [.e 1]) λb c=>a7 c[z]? λo=>i6 o λm=>vC b (.e m) c λU c=>dg c (.c z) U λcx=>w (.d cx) c:=by rcases a with rfl|rfl<;>exact f3 ()
theorem aco:a' (aw q A 9) h1 (fl (.r [.e 14,.e d,.f (bG 90),cC,cx,.e 0]) M (O (.e 14)) (O (.e d)) (O (.c z)) ah) c (ch w)=mk c (.y [.e d,.e d]) λa c=>dg c (.c z) a λcx=>bB cx (bB (an (7<=d)) (w (.d (an (d<=10))) c) (w (.d aN) c)) (w (.d cx) c):=()
theorem acp (b:f=92\/f=89\/f=91\/f=93):a' (aw q A 9) h1 (fl (.r [.e 14,.e 1,.f (bG f),cC,cx,.e 0]) M (O (.e 14)) (O (.e 1)) (O (.c z)) ah) c (ch w)↔
 a7 c[z]? λa=>gi (.e 0) a λx=>a7 c[z]? λa=>gi (.e 1) a λU=>dg c x U λcx=>bB (!cx) (w (.d aN) c) (a7 c[z]? λa=>gi (.e 0) a λx=>cR x λi=>bB (an (7<=i)) (cR x λi=>bB (an (i<=10)) (w (.d (an (i<=10))) c)
  (match an (f=92\/f=89)with|true=>a7 c[z]? λa=>gi (.e 0) a λx=>A 1359 [x] c w|false=>w (.d aN) c)) (match an (f=92\/f=89)with|true=>a7 c[z]? λa=>gi (.e 0) a λx=>A 1359 [x] c w|false=>w (.d aN) c)):=by
 rcases b with rfl|rfl|rfl|rfl<;>exact f3 ()
noncomputable abbrev qS:E:=[.e 2,.e 4,.e 7,.e 8,.e 9,.e 10,.e 16,.e 17,.e 18]
theorem acq:a' (aw q A 9) h1 (fl (.r [.e 19,.e d,cC,.e 1,.e 0]) M (O (.e 19)) (O (.e d)) (O (.c z)) ah) (D (h.b k bo I)) (ch w)=a7 (D (h.b k bo I))[z]? λa=>gi (.e 0) a λx=>lO (D (h.b k bo I)) x qS λcx=>bB cx (lO (D (h.b k bo I)) (.e d) qS λcx=>w (.d cx) (D (h.b k bo I))) (w (.d cx) (D (h.b k bo I))):=()
theorem acr:a' (aw q A 9) h1 (fl (.r [.e 19,.e d,cC,.e 4,.e 0]) M (O (.e 19)) (O (.e d)) (O (.c z)) ah) (D (h.b k bo I)) (ch w)=a7 (D (h.b k bo I))[z]? λa=>gi (.e 0) a λx=>lO (D (h.b k bo I)) x qS λcx=>bB cx (w (.d (an (d=12))) (D (h.b k bo I))) (w (.d cx) (D (h.b k bo I))):=()
theorem acs:a' (aw q A 9) h1 (fl (.r [.e 19,.e d,cC,.e 5,.e 0]) M (O (.e 19)) (O (.e d)) (O (.c z)) ah) (D (h.b k bo I)) (ch w)=a7 (D (h.b k bo I))[z]? λa=>gi (.e 0) a λx=>dg (D (h.b k bo I)) x (.e 12) λcx=>bB cx (lO (D (h.b k bo I)) (.e d) qS λcx=>w (.d cx) (D (h.b k bo I))) (w (.d cx) (D (h.b k bo I))):=()
theorem act:a' (aw q A 9) h1 (fl (.r [.e 20,.e 1,cC,.e aF,.e 0]) M (O (.e 20)) (O (.e 1)) (O (.c z)) ah) (D (h.b k bo I)) (ch w)=mk (D (h.b k bo I)) (.y [.e 12]) λa c=>dg c (.c z) a λcx=>bB cx
 (a7 c[18]? λb=>tg b λd=>dE (g8 86) (a7 (bH d 86) λe=>p4 (al q) (.e aF) e c λcx=>bB cx (w (.d cx) c) (w (.d (an (aF=13))) c))) (w (.d cx) c):=()
theorem acu:a' (aw q A 9) h1 (fl (.r [.e 21,.e d,cC]) M (O (.e 21)) (O (.e d)) (O (.c z)) ah) c (ch w)=a7 c[z]? λa=>gi (.e 0) a λx=>A 1359 [x] c λcx c=>a7 (li c cx) λaM=>bB aM (A 1359 [.e d] c w) (w cx c):=()
theorem acv:a' (aw q A 9) h1 (fl (.r [.e 31,.e 1,cC,cx]) M (O (.e 31)) (O (.e 1)) (O (.c z)) ah) c (ch w)=a7 c[z]? λa=>i6 a λm=>a7 c[z]? λa=>gi (.e (m-1)) a λx=>dg c x (.e 1) λcx=>w (.d cx) c:=()
theorem acw:a' (aw q A 9) h1 (fl (.r [.e 22,.e d,.r [.e 2,p,.e o],cx]) M (O (.e 22)) (O (.e d)) (O (.c z)) ah) c (ch w)=mk c (.y [.e d,.e d]) λa c=>dg c (.c z) a λcx=>bB cx (w (.d af) c) (w (.d cx) c):=()
theorem acx:a' (aw q A 9) h1 (fl (.r [.e 8,.e 1,.C,.r [.e 13,.e 13,.r []],aM,.e 0]) M (O (.e 8)) (O (.e 1)) (O (.c z)) ah) c (ch w)=mk c (.y [.e 13,.e 13]) λa c=>dg c (.r [.r [.e 13,.e 13,.r []],.e 1,.C,.c z,.e 0]) (.r [.r [.e 13,.e 13,.r []],.e 1,.C,a,.e 0]) λcx=>w (.d cx) c:=()
theorem acy (b:aF=19/\o=7\/aF=20/\o=17)(e:B=66\/B=68):a' (aw q A 9) h1 (fl (.r [.e 8,.e d,.r bj,.r [.e aF,.e B,.r []],.r [],.e 0]) M (O (.e 8)) (O (.e d)) (O (.c z)) ah) (D (h.b k bo I)) (ch w)↔
 mk (D (h.b k bo I)) (.h [(66,.e 1),(68,.e o)]) λa c=>a7 (hD (al q) a .b c) λm=>jq (al q) A m a [.e B,.e (-1)] c λU c=>a' (aw q A 8) [z2] (fl (.r [.e 8,.e d,.r bj,.r [.e aF,.e B,.r []],.r [],.e 0]) M (O (.e 8)) (O (.e d)) (O (.c z)) (O U)) c λJ L c=>hX (ch w) (λL c=>a' (aw q A 9) [z3,z4,z5,z6,z7,z8,z9] L c (ch w)) J L c:=by
 rcases b with⟨rfl,rfl⟩|⟨rfl,rfl⟩<;>rcases e with rfl|rfl<;>exact f3 ()
theorem acz (a:aF=19\/aF=20):aw q A 8 z2 (fl (.r [.e 8,.e d,.r bj,.r [.e aF,.e B,.r []],.r [],.e 0]) M (O (.e 8)) (O (.e d)) (O (.c z)) (O U)) (D (h.b k bo I)) G↔
 mk (D (h.b k bo I)) (.y [.e aF]) λb c=>dg c (.c z) b λcx=>bB cx (dg c (.r [.e d,.r [],.e 0]) (.r [U,.r [],.e 0]) λcx=>G (.c (.d cx)) (fl (.r [.e 8,.e d,.r bj,.r [.e aF,.e B,.r []],.r [],.e 0]) M (O (.e 8)) (O (.e d)) (O (.c z)) (O U)) c) (G (.c (.d cx)) (fl (.r [.e 8,.e d,.r bj,.r [.e aF,.e B,.r []],.r [],.e 0]) M (O (.e 8)) (O (.e d)) (O (.c z)) (O U)) c):=by
 rcases a with rfl|rfl<;>exact f3 ()
def acA:bM bK (al q) A 1359 [.e d] c w=bB (an (d=12)) (w (.d (an (d=12))) c) (w (.d (an (d=13))) c):=()
noncomputable def aE.i (e:aE):Int:=match e with
 |.p k _=>k
 |.h k _=>k
 |.K k _=>k
 |.conv k _ _=>k
 |.q k _ _ _=>k
 |.t _ _=>1
 |.z _=>1
 |.is _ _=>1
 |.v k _=>k
 |.d k _ _=>k
 |.w _ _=>1
 |.A _ _=>1
 |.G a _ _=>a
 |.B _ _=>1
def aE.C (e:aE):∃c r,e.u=.r (.e c::.e e.i::r):=by induction e using s0<;>exact⟨_,_,aa⟩
def Ia (i:ac->Q E)(f:j->aQ)(n:j)(a:aq)(b c:E)(d:m)(e:aE):Prop:=∀(g:Z)(w:bg),(∀h,w (.d af) (D ((a.C (g++h)).b b d c)))->f n 1364 [.c 18,e.u] (D ((a.C g).b b d c)) w
def acB (a:aq)(b c:E)(d:m)(e:Z)(v:x)(h:j)(i:E)(k l:n aE)(L:aS)(H:Z):Prop:=∀P:aS->bI,(∀(g:Z)(o:be),(∀f,f∈l->f∈k)->(D ((a.C (e++g)).b b d c))[h]?=O (.y i)->P (fl v o ab ab ab ab) (D ((a.C (e++g)).b b d c)))->P L H
def acC (s:aq)(b c:E)(d:m)(e f:n aE)(H:Z):Prop:=∀P:bI,(∀a:n aE,a++f=e->P (D ((s.C [.y (a.map λx=>.e x.i)]).b b d c)))->P H
def kU:(h.C c).C bb=h.C (c++bb):=by show{h with l:=h.l++c++bb}=_;rw[bU];rfl
def xe:D (h.b k d I)++c=D ((h.C c).b k d I):=aa
theorem acD (g:(D (h.b k d I))[f]?=O (.y (bP.al.map aE.u))) (i:L bP.al<=10)
 (l:dm (D ((h.C [.y (bP.al.map λa=>.e a.i)]).b k d I))):hn (Bb q A) ⟨bP.al.map aE.u,O f⟩ (L (D (h.b k d I))) (bP.al.map aE.u) (D (h.b k d I)++[.y []]) dm:=by
 refine Hd (fG:=⟨bP.al.map aE.u,O f⟩) (f:=aT (L h.l)) (acC h k I d bP.al) (λa c H K J c m=>?_) (λH J=>?_) λdm K=>K [] aa
 ·apply J;intro b e
  ·refine eO a.C λc c n=>⟨dj (nn:=[_]) g,?_⟩;rw[n];refine aci.mpr (m _ _ (b.map λa=>.e a.i) (bO (iC ..)) (aU (show L (b.map λa:aE=>x.e a.i)+1<=11 by rw[cj];exact ec (.le (.b .a .r) (.y 11)) (.le .a (.y 10)) (aU (by rw[<-e,a6];exact cZ _ _) i)) ⋯) λdm K=>?_);show dm (D (((h.C [.y (b.map λa=>.e a.i)]).X (L h.l) (.y (b.map (λa:aE=>x.e a.i)++[.e a.i]))).b k d I));rw[AS,show b.map (λa:aE=>x.e a.i)++[.e a.i]=(b++[a]).map λa=>.e a.i from(eu (l₂:=[a])).symm];exact K (b++[a]) (by rw[bU];exact e)
 ·apply J;intro b e;rw[ca]at e;subst e;exact⟨dj (nn:=[_]) g,l⟩
theorem acE (S:b4 q V){e:aE}{a:aq}{b:Z}(o:e.aw)(p:1<=f)(v:L e.al<=10)(z:∀x,x∈e.al->Ia q V f a k I d x)
 (A:∀g j l c r,e.u=.r (.e c::.e e.i::r)->(a.C (b++g)).l[j]?=O (.y (e.al.map λx=>.e x.i))->a' (aw q (V f) 9) h1 (fl e.u l (O (.e c)) (O (.e e.i)) (O (.c (aT j))) ab) (D ((a.C (b++g)).b k d I)) (ch w)):
 V (f+1) 1364 [.c 18,e.u] (D ((a.C b).b k d I)) w:=by
 refine eO e.C λc r s=>S.r (acd.mpr (bx.mpr (ace.mpr (S.c4 p (Ba S o λg j i=>ba i ?_)))));rw[xe,kU]at i⊢;refine n6 (fG:=⟨e.al.map aE.u,O j⟩) (acB a k I d b e.u j (e.al.map aE.u) e.al) (λx F B H K J C E=>?_) (λB H J=>?_) λP K=>K g ab (λE h=>h) i
 ·apply J;intro g l n m
  ·refine⟨m,acf.mpr (z x (n x (db ..)) (b++g) _ λh=>?_)⟩;rw[bU];refine C _ _ λP K=>K (g++h) (O x.u) (λy t=>n y (dy _ t)) ?_;rw[<-bU,<-kU,<-xe];exact dj m
 ·apply J;intro g l n m;refine⟨m,bq ?_⟩;have t:a' (aw q (V f) 9) (wH::h1) (fl e.u l (O (.e c)) (O (.e e.i)) ab ab) (D ((a.C (b++g)).b k d I)) (ch w):=by
   refine bx.mpr (ach.mpr (S.c4 p (Ba S o λh j i=>ba i ?_)));rw[xe,kU,bU]at i⊢;refine acD i v (bq ?_);have u:a.C (b++(g++h++[.y (e.al.map λx=>.e x.i)]))=(a.C (b++(g++h))).C [.y (e.al.map λx=>.e x.i)]:=by rw[kU];simp only[bU]
   have:=A (g++h++[.y (e.al.map λx=>.e x.i)]) (L (a.C (b++(g++h))).l) l c r s (by rw[u];exact jz);rw[u]at this;exact this
  rw[s]at t⊢;exact bx.mpr (acg.mpr (bq t))
theorem acF:∀l:bk,pN (.list (l.map .int)) (.list (l.map .int))=true:=by
 intro l;refine(?_:PyData.eqvAll _ _=af);induction l with
 |nil=>rfl
 |cons i l a=>refine(?_:(pN (.int i) (.int i)&&PyData.eqvAll (l.map .int) (l.map .int))=af);rw[a];refine(?_:(an (i=i)&&af)=af);rw[dz aa];rfl
theorem Bc (a:∀i:m,hT (.e i)=O (.int i)):∀l:bk,h9 hT (l.map x.e)=O (l.map .int)
 |[]=>aa
 |i::l=>by refine(?_:((hT (.e i)).bind λd=>(h9 hT (l.map x.e)).map (d::·))=_);rw[a,Bc a l];rfl
theorem Bd (e:c[f]?=O (.y (au.map x.e))):i4 c (z+2) (.c f)=O (.list (au.map .int)):=by refine(?_:(c[f]?.bind λo=>o.D ab (l:= λau=>(h9 (i4 c (z+1)) au).map B7))=_);rw[e];refine(?_:(h9 (i4 c (z+1)) (au.map x.e)).map B7=_);rw[Bc λf=>aa];rfl
def sn (a:c[f]?=O (.y (au.map x.e))) (b:c[z]?=O (.y (au.map x.e))) (k:gI af):dg c (.c f) (.c z) gI:=by refine ba (Bd (z:=4) a) (ba (Bd (z:=4) b) ?_);rw[acF];exact k
def pz (e:d=o)(k:gI af):dg c (.e d) (.e o) gI:=by subst e;refine(?_:gI (an (d=d)));rw[dz aa];exact k
def qT (e:k[0]?=O p) (a:cS p):gi (.e 0) (.y k) cS:=ba (fL:=dD k 0) e a
def Ib (e:k[1]?=O p) (a:cS p):gi (.e 1) (.y k) cS:=ba (fL:=dD k 1) e a
def qU (h:hT p=O o5)(a:h9 hT k=O qa):h9 hT (p::k)=O (o5::qa):=by refine(?_:((hT p).bind λo5=>(h9 hT k).map (o5::·))=_);rw[h,a];rfl
def Ic (e:c[f]?=O (.y [p])) (a:z<=100)(q:mk c (.y (iW z p)) w):vC (.c f) (.e z) c w:=
 ki e (fM (f:=z) (aU a ⋯) q)
theorem acG (e:c[f]?=O (.h aI)) (a:bH aI d=O p)(b:w p c):a7 (hD (al q) (.c f) .b c) λg=>jq (al q) A g (.c f) [.e d,U] c w:=by
 have h:hD (al q) (.c f) .b c=O .b:=by refine(?_:c[f]?.bind _=_);rw[e];rfl
 refine ba h (ba e ((?_:w ((bH aI d).getD U) c)));rw[a];exact b
def lv (k:m):Prop:=k=2\/k=4\/k=7\/k=8\/k=9\/k=10\/k=16\/k=17\/k=18
def ut (k:m):Prop:=k=12\/k=13
def mO (k:m):Prop:=k=7\/k=8\/k=9\/k=10
def uu (h:lv d)(q:gI af):lO c (.e d) qS gI:=by rcases h with rfl|rfl|rfl|rfl|rfl|rfl|rfl|rfl|rfl<;>exact q
def aE.cc (g:aO)(n:bk)(e:aE):Prop:=match e with
 |.p k x=>(x=.C/\ut k)\/((∃s,x=.f s)/\k=13)\/((∃i:m,x=.e i)/\(k=1\/mO k))
 |.h k l=>∃(a:j)(f:m),l=(a+1:j)/\g[a]?=O (k,f)
 |.K k f=>bH (hH 1000 n) f=O (.e k)
 |.conv k e c=>c=1/\lv e.i/\lv k\/c=4/\lv e.i/\k=12\/c=5/\e.i=12/\lv k
 |.q k o a b=>a.i=b.i/\(o=90/\a.i=k/\mO k\/k=1/\((o=92\/o=89)/\(mO a.i\/ut a.i)\/(o=91\/o=93)/\mO a.i))
 |.t a b=>a.i=1/\b.i=1
 |.z a=>a.i=1
 |.is e k=>e.i=12/\(lv k\/k=13)
 |.v k e=>ut e.i/\ut k
 |.d k _ e=>e.i=k
 |.w _ e=>e.i=1
 |.A k e=>e.i=k/\(k=19\/k=20)
 |.G c k e=>e.i=k/\(k=19/\c=7\/k=20/\c=17)
 |.B a b=>a.i=13/\b.i=13
def xf (S:b4 q V)(a:1<=f){k:m}(h:ut k)(b:w (.d af) c):V f 1359 [.e k] c w:=by refine S.c4 a (S.r (f:=0) (acA.mpr ?_));rcases h with rfl|rfl<;>exact b
def ix (e:h.l[f]?=O aZ):(h.C c).l[f]?=O aZ:=dj e
def mP:(h.C [aZ]).l[L h.l]?=O aZ:=jz
def Be (e:h.l[f]?=O (.y (au.map x.e))) (a:fF af (D ((h.C [.y (au.map x.e)]).b k d I))):mk (D (h.b k d I)) (.y (au.map x.e)) λz c=>dg c (.c (aT f)) z λb=>fF b c:=
 l5 (sn (bO (ix e)) (bO mP) a)
theorem Bf (a:B=19/\J=7\/B=20/\J=17)(b:aF=66/\o=1\/aF=68/\o=J) (e:h.l[z]?=O (.y [.e B])) (c:∀g,w (.d af) (D ((h.C g).b k d I))):
 a' (aw q (V f) 9) h1 (fl (.r [.e 8,.e o,bP.u,.r [.e B,.e aF,.r []],.r [],.e 0]) M (O (.e 8)) (O (.e o)) (O (.c (aT z))) ab) (D (h.b k d I)) (ch w):=by
 refine bu bP.r λr i=>?_;rw[i];refine(acy a (b.imp yd yd)).mpr (l5 (acG (bO mP) (by rcases b with⟨rfl,rfl⟩|⟨rfl,rfl⟩<;>rfl:bH [(66,.e 1),(68,.e J)] aF=some (.e o)) (bx.mpr ((acz (h:=h.C [.h [(66,.e 1),(68,.e J)]]) (a.imp yd yd)).mpr (l5 (h:=h.C [.h [(66,.e 1),(68,.e J)]]) (sn (au:=[B]) (bO (ix (ix e))) (bO mP) ?_))))));rw[kU];have c:=c ([.h [(66,.e 1),(68,.e J)]]++[.y [.e B]]);rcases a with⟨rfl,rfl⟩|⟨rfl,rfl⟩<;>rcases b with⟨rfl,rfl⟩|⟨rfl,rfl⟩<;>exact c
theorem acH (S:b4 q V)(L:1<=f){e:aE}{P:m}{r:E}{F:j}{W:be}(v:cI h)(y:e.cc h.u h.c)(n:e.u=.r (.e P::.e e.i::r)) (s:h.l[F]?=O (.y (e.al.map λM=>.e M.i))) (A:∀g,w (.d af) (D ((h.C g).b k d I))):
 a' (aw q (V f) 9) h1 (fl e.u W (O (.e P)) (O (.e e.i)) (O (.c (aT F))) ab) (D (h.b k d I)) (ch w):=by
 have B:w (.d af) (D (h.b k d I)):=by have:=A [];rw[show h.C []=h by show{h with l:=h.l++[]}=h;rw[ca]]at this;exact this
 cases e with
 |p u M=>
  injection n with n;injection n with n;injection n with n;subst n
  rcases y with⟨rfl,b⟩|⟨⟨M,rfl⟩,b⟩|⟨⟨M,rfl⟩,b⟩
  ·exact acj.mpr (xf S L b B)
  ·have b:u=13:=b;subst b;exact ack.mpr B
  ·have b:u=1\/mO u:=b;refine acl.mpr ?_;rcases b with rfl|rfl|rfl|rfl|rfl<;>exact B
 |h u Y=>
  injection n with n;injection n with n;injection n with n;subst n
  refine gq y ?_;clear y;rintro H Z rfl Q;obtain⟨p,b,C,o⟩:=v.r Q;exact acm.mpr (ba (bW:=.c (p+20+75)) ((List.getElem?_cons_succ (a:=x.C) (l:=h.d.map hV) (i:=H)).trans b) (se o aa aa (pz aa B)))
 |K u Z=>injection n with n;injection n with n;injection n with n;subst n;exact acn.mpr (ba y (pz aa B))
 |conv u e P=>
  injection n with n;injection n with n;injection n with n;subst n
  rcases y with⟨rfl,G,C⟩|⟨rfl,G,C⟩|⟨rfl,G,C⟩
  ·exact acq.mpr (ba (bO s) (qT (p:=.e e.i) aa (uu (gI:= λb=>bB b (lO (D (h.b k d I)) (.e u) qS λb=>w (.d b) (D (h.b k d I))) (w (.d b) (D (h.b k d I)))) G (uu (gI:= λb=>w (.d b) (D (h.b k d I))) C B))))
  ·have C:u=12:=C;subst C;exact acr.mpr (ba (bO s) (qT (p:=.e e.i) aa (uu (gI:= λb=>bB b (w (.d af) (D (h.b k d I))) (w (.d b) (D (h.b k d I)))) G B)))
  ·exact acs.mpr (ba (bO s) (qT (p:=.e e.i) aa (pz (gI:= λb=>bB b (lO (D (h.b k d I)) (.e u) qS λb=>w (.d b) (D (h.b k d I))) (w (.d b) (D (h.b k d I)))) G (uu (gI:= λb=>w (.d b) (D (h.b k d I))) C B))))
 |q u o p b=>
  injection n with n;injection n with n;injection n with n;subst n
  refine bd y λR CS=>?_;have J:h.l[F]?=O (.y [.e p.i,.e b.i]):=s;rcases CS with⟨rfl,G,C⟩|⟨G,C⟩
  ·rw[<-R,G]at J;refine aco.mpr (Be (au:=[u,u]) J ?_);have A:=A [.y ([u,u].map x.e)];rcases C with rfl|rfl|rfl|rfl<;>exact A
  ·have G:u=1:=G;subst G;refine(acp (by rcases C with⟨v|v,_⟩|⟨v|v,_⟩<;>simp[v]:o=92\/o=89\/o=91\/o=93)).mpr (ba (bO J) (qT aa (ba (bO J) (Ib aa (pz R (ba (bO J) (qT aa ?_)))))));have T:mO p.i->∀X,bB (an (7<=p.i)) (cR (.e p.i) λH=>bB (an (H<=10)) (w (.d (an (H<=10))) (D (h.b k d I))) X) X:= λK X=>by rcases K with v|v|v|v<;>rw[v]<;>exact B
   rcases C with⟨v,K|U⟩|⟨v,K⟩
   ·exact T K _
   ·have N:p.i=12\/p.i=13:=U;refine(?_:bB (an (7<=p.i)) (bB (an (p.i<=10)) _ _) _);rcases N with N|N<;>rcases v with rfl|rfl<;>rw[N]<;>exact(ba (bO J) (qT aa (xf S L U B)))
   ·exact T K _
 |t p b=>
  injection n with n;injection n with n;injection n with n;subst n
  have s:h.l[F]?=O (.y [.e p.i,.e b.i]):=s;rw[y.1,y.2]at s;refine(H' (.inr aa)).mpr (l5 (ba (bO (ix s)) (Ic (z:=2) (bO mP) ⋯ (l5 (h:=h.C [.y [.e 1]]) (sn (au:=[1,1]) (bO (ix (ix s))) (bO mP) ?_)))));rw[kU];exact A _
 |z p=>
  injection n with n;injection n with n;injection n with n;subst n
  have s:h.l[F]?=O (.y [.e p.i]):=s;rw[y]at s;refine(H' (.inl aa)).mpr (l5 (ba (bO (ix s)) (Ic (z:=1) (bO mP) ⋯ (l5 (h:=h.C [.y [.e 1]]) (sn (au:=[1]) (bO (ix (ix s))) (bO mP) ?_)))));rw[kU];exact A _
 |is e u=>
  injection n with n;injection n with n;injection n with n;subst n
  have s:h.l[F]?=O (.y [.e e.i]):=s;rw[y.1]at s;refine act.mpr (Be (au:=[12]) (fF:= λb c=>bB b (a7 c[18]? λJ=>tg J λo=>dE (g8 86) (a7 (bH o 86) λy=>p4 (al q) (.e u) y c λb=>bB b (w (.d b) c) (w (.d (an (u=13))) c))) (w (.d b) c)) s ?_);have A:=A [.y ([12].map x.e)];rcases y.2 with v|v
  ·exact uu (c:=D ((h.C [.y ([12].map x.e)]).b k d I)) (gI:= λb=>bB b (w (.d b) (D ((h.C [.y ([12].map x.e)]).b k d I))) (w (.d (an (u=13))) (D ((h.C [.y ([12].map x.e)]).b k d I)))) v A
  ·have v:u=13:=v;subst v;exact A
 |v u e=>
  injection n with n;injection n with n;injection n with n;subst n
  exact acu.mpr (ba (bO s) (qT aa (xf S L y.1 (xf S L y.2 B))))
 |d u Y e=>
  injection n with n;injection n with n;injection n with n;subst n
  have s:h.l[F]?=O (.y [.e u,.e e.i]):=s;rw[y]at s;exact acw.mpr (Be (au:=[u,u]) (fF:= λb c=>bB b (w (.d af) c) (w (.d b) c)) s (A _))
 |w p e=>
  injection n with n;injection n with n;injection n with n;subst n
  have s:h.l[F]?=O (.y [.e p.i,.e e.i]):=s;exact acv.mpr (ba (bO s) (ba (bO s) (Ib aa (pz y B))))
 |A u e=>
  injection n with n;injection n with n;injection n with n;subst n
  have s:h.l[F]?=O (.y [.e e.i]):=s;rw[y.1]at s;exact gQ y.2 (λv=>Bf (aF:=66) (o:=1) (B:=u) (J:=7) (.inl ⟨v,aa⟩) (.inl ⟨aa,aa⟩) s A) λv=>Bf (aF:=66) (o:=1) (B:=u) (J:=17) (.inr ⟨v,aa⟩) (.inl ⟨aa,aa⟩) s A
 |G J u e=>
  injection n with n;injection n with n;injection n with n;subst n
  have s:h.l[F]?=O (.y [.e e.i]):=s;rw[y.1]at s;exact Bf (aF:=68) (o:=J) (B:=u) y.2 (.inr ⟨aa,aa⟩) s A
 |B p b=>
  injection n with n;injection n with n;injection n with n;subst n
  have s:h.l[F]?=O (.y [.e p.i,.e b.i]):=s;rw[y.1,y.2]at s;have o:∀H,(D ((h.C [.y [.e 13,.e 13]]).b k d I))[H]?=O (.y ([13,13].map x.e))->i4 (D ((h.C [.y [.e 13,.e 13]]).b k d I)) 6 (.r [.r [.e 13,.e 13,.r []],.e 1,.C,.c H,.e 0])=O (.tuple [.tuple [.int 13,.int 13,.tuple []],.int 1,.none,.list [.int 13,.int 13],.int 0]):= λH Q=>by refine(?_:(h9 _ _).map uU=_);rw[qU aa (qU aa (qU aa (qU (Bd (z:=3) (au:=[13,13]) Q) (qU aa aa))))];rfl
  exact acx.mpr (l5 (ba (o _ (bO (ix s))) (ba (o _ (bO mP)) (A _))))
def aE.y (e:aE):Nat:=e.aN (λa a=>1) 1 1 (·+1) (·+2) λx y=>max x y+1
def aE.X (P:aE->Prop)(e:aE):Prop:=e.rec (λk x=>P (.p k x)) (λk l=>P (.h k l)) (λk f=>P (.K k f)) (λk e c i=>P (.conv k e c)/\i) (λk o a b i j=>P (.q k o a b)/\i/\j) (λa b i j=>P (.t a b)/\i/\j) (λa i=>P (.z a)/\i) (λe k i=>P (.is e k)/\i)
 (λk e i=>P (.v k e)/\i) (λk l e i=>P (.d k l e)/\P (.h k l)/\i) (λa e i j=>P (.w a e)/\i/\j) (λk e i=>P (.A k e)/\i) (λc k e i=>P (.G c k e)/\i) λa b i j=>P (.B a b)/\i/\j
def aE.aT (a:bP.X uv):uv bP:=by
 induction bP using s0<;>first|exact a|exact a.1
theorem aE.aU (e:bP.X uv)(f:nw∈bP.al):nw.X uv/\nw.y+1<=bP.y:=by
 cases bP with
 |p=>cases f
 |h=>cases f
 |K=>cases f
 |conv k bP c=>rw[cz.mp f];exact⟨e.2,br _⟩
 |z a=>rw[cz.mp f];exact⟨e.2,br _⟩
 |is bP k=>rw[cz.mp f];exact⟨e.2,br _⟩
 |v k bP=>rw[cz.mp f];exact⟨e.2,br _⟩
 |A k bP=>rw[cz.mp f];exact⟨e.2,br _⟩
 |G b k bP=>rw[cz.mp f];exact⟨e.2,br _⟩
 |q k o a b=>exact(kv f).elim (λbP=>by rw[bP];exact⟨e.2.1,gy (kF _ _)⟩) λbP=>by rw[bP];exact⟨e.2.2,gy (mh _ _)⟩
 |t a b=>exact(kv f).elim (λbP=>by rw[bP];exact⟨e.2.1,gy (kF _ _)⟩) λbP=>by rw[bP];exact⟨e.2.2,gy (mh _ _)⟩
 |w a b=>exact(kv f).elim (λbP=>by rw[bP];exact⟨e.2.1,gy (kF _ _)⟩) λbP=>by rw[bP];exact⟨e.2.2,gy (mh _ _)⟩
 |B a b=>exact(kv f).elim (λbP=>by rw[bP];exact⟨e.2.1,gy (kF _ _)⟩) λbP=>by rw[bP];exact⟨e.2.2,gy (mh _ _)⟩
 |d k l bP=>exact(kv f).elim (λc=>by rw[c];exact⟨e.2.1,ev _ _⟩) λc=>by rw[c];exact⟨e.2.2,fJ _⟩
def aE.a1 (e:aE):L e.al<=10:=by induction e using s0<;>exact ea aa
def aE.aY (e:aE):1<=e.y:=by induction e using s0<;>exact gy (fK _)
def cI.e (a:cI h):cI (h.C c):=a.C
theorem acI (S:b4 q V){a:aq}(h:cI a):∀{n:j}{e:aE},e.y<=n->e.aw->e.X (aE.cc a.u a.c)->Ia q V (n+1) a k I d e:=by
 intro n;induction n with
 |zero=>intro e b;have:=e.aY;exact iV (hA [_] [] .F (.le .a .K) (.le .r .a) b this)
 |succ n m=>
  intro e b f i g w o;refine acE S f (ev 1 n) e.a1 (λx l=>?_) λp c M c r s t=>?_
  ·have:=aE.aU i l;exact m (fE (.le .a .e) (.le .l (.b .e .r)) (.le (.b .a .r) .l) b this.2) (aE.aP f l) this.1
  ·refine acH (h:=a.C (g++p)) S (ev 1 n) h.C (aE.aT (uv:=aE.cc a.u a.c) i) s t λc=>?_;rw[kU,bU];exact o _
def aE.s (e:aE):n aE:=e.rec (λk x=>[.p k x]) (λk l=>[.h k l]) (λk f=>[.K k f]) (λk e c i=>.conv k e c::i) (λk o a b i j=>.q k o a b::(i++j)) (λa b i j=>.t a b::(i++j)) (λa i=>.z a::i) (λe k i=>.is e k::i) (λk e i=>.v k e::i)
 (λk l e i=>.d k l e::.h k l::i) (λa e i j=>.w a e::(i++j)) (λk e i=>.A k e::i) (λc k e i=>.G c k e::i) λa b i j=>.B a b::(i++j)
theorem aE.aR (e:aE):e.s=e::e.al.flatMap aE.s:=by
 induction e using s0<;>first|rfl|exact cp (_::·) (ca _).symm|exact cp (_::_::·) (ca _).symm|exact cp (λl=>List.cons _ (List.append _ l)) (ca _).symm
def acJ:bM bK (al q) A 1296 [p] c w=mk c (.y [p]) λaM c=>a' (aw q A 9) [zT,zU] [O p,O aM,ab] c (ch w):=()
abbrev Ie (a:ac->Q E)(C:aQ):f4:= λp L c w=>(ei (al a) C 13).c (.s 2) p L c λL c=>a' (aw a C 8) [GE] L c w
def v7:aw q A 9 zT [O p,O aM,M] c G=A 1289 [p] c λU c=>kk c U λt=>ds (Ie q A) t t.a [O p,O aM,M] c G:=()
def acK:Ie q A U [O p,O aM,M] c G=A 1296 [U] c λw c=>rG aM w c λu c=>G .next [O p,O u,O U] c:=()
def acL:aw q A 9 zU [O p,O aM,M] c G=G (.c aM) [O p,O aM,M] c:=()
def aE.kO (e:aE):Nat:=L e.s
def acM (D:j->aQ)(n:j)(e:aE):Prop:=∀(c:Z)(w:bg),(∀g a,(c++g)[a]?=O (.y (e.s.map aE.u))->w (.c a) (c++g))->D n 1296 [e.u] c w
def acN (a:Z)(v:x)(c:j)(d:E)(f:n aE)(e:aE)(h:n aE)(L:aS)(H:Z):Prop:=∀P:aS->bI,(∀(g:Z)(b:n aE)(i:j)(M:be),b++h=f->(a++g)[c]?=O (.y d)->(a++g)[i]?=O (.y ((e::b.flatMap aE.s).map aE.u))->P [O v,O (.c i),M] (a++g))->P L H
theorem acO (S:b4 q V):∀{n:j}{e:aE},e.y<=n->e.aw->e.X (λx=>L x.s<=1000)->acM V (n+1) e:=by
 intro n;induction n with
 |zero=>intro e k;have:=e.aY;exact iV (hA [_] [] .F (.le .a .K) (.le .r .a) k this)
 |succ n u=>
  intro e k o p d w v;refine S.r (acJ.mpr (hY (bx.mpr (v7.mpr (S.c4 (ev 1 n) (Ba S o λg r l=>ba l ?_))))));rw[bU]at l⊢;refine n6 (fG:=⟨e.al.map aE.u,O r⟩) (acN d e.u r (e.al.map aE.u) e.al e) (λx D y c K J z D=>?_) (λy c J=>?_) λP K=>K ([.y [e.u]]++g) [] (L d) ab aa l ?_
  ·apply J;intro g a i M b f h
   ·have s:x∈e.al:=by rw[<-b];exact gC _ (db ..)
    have t:=aE.aU p s;refine⟨f,acK.mpr (u (fE (.le .a .e) (.le .l (.b .e .r)) (.le (.b .a .r) .l) k t.2) (aE.aP o s) t.1 _ _ λm D A=>?_)⟩;have B:(e::a.flatMap aE.s).map aE.u++x.s.map aE.u=(e::(a++[x]).flatMap aE.s).map aE.u:=by rw[kb,pU,<-eu];rfl
    have C:L ((e::a.flatMap aE.s).map aE.u)+L (x.s.map aE.u)<=1000:=by have:=aE.aT p;rw[aE.aR,<-b,kb,CA]at this;simp only[hM,a6,cj]at this⊢;exact ex (.le (.b (.b .a .r) .e) (.y 1000)) (.le (.b (.b .a (.b .e .l)) .r) (.y 1000)) this
    refine ki (dj h) (ki A (fM (aU C ⋯) (hY ?_)));rw[B];rw[show d++g++m++[aX.y ((e::(a++[x]).flatMap aE.s).map aE.u)]=d++(g++m++[aX.y ((e::(a++[x]).flatMap aE.s).map aE.u)]) by simp only[bU]];refine z _ _ λP K=>K (g++m++[.y ((e::(a++[x]).flatMap aE.s).map aE.u)]) (a++[x]) _ (O x.u) (by rw[bU];exact b) ?_ ?_
    ·rw[<-bU,<-bU];exact dj (dj f)
    ·rw[<-bU,<-bU];exact jz
  ·apply J;intro g a i M b f h;rw[ca]at b;subst b;rw[<-aE.aR]at h;exact⟨f,bq (bx.mpr (acL.mpr (v g i h)))⟩
  ·rw[<-bU];exact dj jz
abbrev l8 (a:ac->Q E)(C:aQ)(p b:x)(H:Z)(K:bI):Prop:=a7 (hD (al a) p .i H) λd=>jq (al a) C d p [b] H λc H=>K H
def acP:bM bK (al q) A 1371 [.c 18,.r [.e 20,.e B],.c f] c w=ed (al q) (.c f) (.f (bG 49)) c λp=>l8 q A p (.e B) c λc=>w (.d af) c:=()
def acQ:bM bK (al q) A 1371 [.c 18,.r [.e 21,.e B],.c f] c w=ed (al q) (.c f) (.f (bG 76)) c λp=>l8 q A p (.e B) c λc=>w (.d af) c:=()
noncomputable abbrev il (v:x)(z:j)(c:m)(a:be):aS:=[O (.c 18),O v,O (.c z),O (.e c),a]
theorem acR (a:d=1\/d=12\/d=22\/d=23):bM bK (al q) A 1371 [.c 18,.r (.e d::aM::k),.c f] c w↔A 1364 [.c 18,aM] c λb c=>a7 (li c b) λb=>bB (!b) (w (.d aN) c) (a' (aw q A 9) [wI,pg,ph,pi] (il (.r (.e d::aM::k)) f d ab) c (ch w)):=by rcases a with rfl|rfl|rfl|rfl<;>exact f3 ()
abbrev qV (a:ac->Q E)(C:aQ):f4:= λp L c w=>(ei (al a) C 13).c (.s 4) p L c λL c=>a' (aw a C 8) [G6,G7] L c w
def acS:aw q A 9 wI (il (.r (.e d::aM::k)) f d M) c G=A 1296 [aM] c λU c=>kk c U λt=>ds (qV q A) t t.a (il (.r (.e d::aM::k)) f d M) c G:=()
def acT:qV q A (cW o B) (il p f d M) c G=eP (.c f) 82 c λa=>l8 q A a (.e B) c λc=>G .next (il p f d (O (cW o B))) c:=()
def acU:qV q A (.r [.e 22,.e o,.r [.e 2,aM,.e B],U]) (il p f d M) c G=eP (.c f) 87 c λa=>l8 q A a (.e B) c λc=>G .next (il p f d (O (.r [.e 22,.e o,.r [.e 2,aM,.e B],U]))) c:=()
theorem acV (a:J=1\/J=2\/J=19\/J=14\/J=15\/J=13\/J=20\/J=21\/J=31\/J=8):qV q A (.r (.e J::k)) (il p f d M) c G↔G .next (il p f d (O (.r (.e J::k)))) c:=by rcases a with rfl|rfl|rfl|rfl|rfl|rfl|rfl|rfl|rfl|rfl<;>exact f3 ()
def acW:a' (aw q A 9) [pg,ph,pi] (il (.r (.e 1::k)) f 1 M) c (ch w)=w (.d af) c:=()
def acX:a' (aw q A 9) [pg,ph,pi] (il (.r (.e 12::.r (.e J::.e 7::I)::k)) f 12 M) c (ch w)=w (.d af) c:=()
theorem acY (a:aF=0\/aF=1):a' (aw q A 9) [pg,ph,pi] (il (.r [.e 22,.r (.e J::.e 1::k),.e aF,.e B]) f 22 M) c (ch w)↔eP (.c f) 76 c λp=>l8 q A p (.e B) c λc=>w (.d af) c:=by rcases a with rfl|rfl<;>exact f3 ()
theorem acZ (a:o=7\/o=8):a' (aw q A 9) [pg,ph,pi] (il (.r [.e 23,.r (.e J::.e o::k),.r I]) f 23 M) c (ch w)↔eP (.c f) 76 c λx=>mk c (.y I) λU c=>rL .Add x U c λu c=>rI (.c f) 76 u c λc=>w (.d af) c:=by rcases a with rfl|rfl<;>exact f3 ()
noncomputable def aE.D (x:aE)(d:ar)(r:m->m->ar:= λb b=>d)(a:m->m->aE->ar:= λb b b=>d):ar:=x.casesOn (λb b=>d) (λb b=>d) r (λb b b=>d) (λb b b b=>d) (λb b=>d) (λb=>d) (λb b=>d) (λb b=>d) a (λb b=>d) (λb b=>d) (λb b b=>d) λb b=>d
def kV (x:aE):bk:=x.D [] (r:= λa f=>[f])
def pA (x:aE):bk:=x.D [] (a:= λa l a=>[l])
def aE.ab (e:aE):bk:=e.s.flatMap kV
def aE.W (e:aE):bk:=e.s.flatMap pA
noncomputable def S.bF (c:S):bk:=c.casesOn (λa=>[]) (λa=>[]) (λl=>[l]) (λa=>[]) (λa a a=>[]) λa a=>[]
noncomputable def S.i (c:S):bk:=c.casesOn (λa=>[]) (λa=>[]) (λa=>[]) (λl=>[l]) (λa a l=>[l]) λa l=>l
noncomputable def S.s (c:S):n aE:=c.casesOn (λe=>[e]) (λf=>[.K 7 f]) (λa=>[]) (λa=>[]) (λe a a=>[e]) λe a=>[e]
def S.ab (c:S):bk:=c.s.flatMap aE.ab
def S.W (c:S):bk:=c.s.flatMap aE.W
structure aE.aL (a:aO)(b:bk)(e:aE):Prop where
 aw:e.aw
 c:e.X (aE.cc a b)
 kO:e.X λx=>L x.s<=1000
 y:e.y<=20
def S.aL (g:aO)(h:bk)(f:S):Prop:=(∀e,e∈f.s->e.aL g h)/\match f with
 |.b e w _=>e.i=1/\(w=0\/w=1)
 |.d e i=>(e.i=7\/e.i=8)/\L i<=1000
 |_=>fZ
structure gd (s:aq)(p:j)(P G W R:bk):Prop where
 bF:s.l[p]?=O (.y (P.map .e))
 i:s.l[p+1]?=O (.y (G.map .e))
 c:s.l[p+2]?=O (.y (W.map .e))
 K:s.l[p+3]?=O (.y (R.map .e))
 e:s.l[p+4]?=O (.K [(49,.c (aT p)),(76,.c (aT (p+1))),(87,.c (aT (p+2))),(82,.c (aT (p+3)))])
 b:cI s
structure hL (s a:aq):Prop where
 c:a={s with l:=a.l}
def hL.D:hL h h:=⟨aa⟩
def hL.y (a:hL h am)(k:hL am cN):hL h cN:=⟨by rw[k.c,a.c]⟩
theorem hL.C:hL h (h.C c):=⟨aa⟩
theorem hL.X:hL h (h.X f aZ):=⟨aa⟩
theorem gd.C (a:gd h f au cV eK d'):gd (h.C c) f au cV eK d':=⟨ix a.bF,ix a.i,ix a.c,ix a.K,ix a.e,a.b.C⟩
def aji:(D (h.b k d I)).set (aT f) aZ=D ((h.X f aZ).b k d I):=aa
theorem nx (e:h.l[f]?=O (.y (au.map x.e))) (b:L au<100000)(a:dm (D ((h.X f (.y ((au++[o]).map x.e))).b k d I))):l8 q A (.c (aT f)) (.e o) (D (h.b k d I)) dm:=by
 have c:hD (al q) (.c (aT f)) .i (D (h.b k d I))=O .i:=by show(D (h.b k d I))[aT f]?.bind _=_;rw[bO e];rfl
 refine ba c (ki (bO e) (fM (aU (show L (au.map x.e)+1<=100000 by rw[cj];exact b) ⋯) ?_));rw[eu]at a;exact a
def pB (e:h.l[f]?=O aZ):(h.X f df).l[f]?=O df:=kr e
def hv (a:f≠z) (e:h.l[z]?=O aZ):(h.X f df).l[z]?=O aZ:=(lq a).trans e
theorem gd.u (a:gd h f au cV eK d'):gd (h.X f (.y (mQ.map x.e))) f mQ cV eK d':=⟨pB a.bF,hv (k7 (.b (.l .a (.b .a .r))) [-1]) a.i,hv (k7 (.b (.l .a (.b .a .W))) [-1]) a.c,hv (k7 (.b (.l .a (.b .a .L))) [-1]) a.K,hv (k7 (.b (.l .a (.b .a (.y 4)))) [-1]) a.e,a.b.X a.bF⟩
theorem gd.a (a:gd h f au cV eK d'):gd (h.X (f+1) (.y (mQ.map x.e))) f au mQ eK d':=⟨hv (em (.b (.l (.b .a .r) .a))) a.bF,pB a.i,hv (k7 (.b (.l (.b .a .r) (.b .a .W))) [-1]) a.c,hv (k7 (.b (.l (.b .a .r) (.b .a .L))) [-1]) a.K,hv (k7 (.b (.l (.b .a .r) (.b .a (.y 4)))) [-1]) a.e,a.b.X a.i⟩
theorem gd.r (a:gd h f au cV eK d'):gd (h.X (f+2) (.y (mQ.map x.e))) f au cV mQ d':=⟨hv (sV (pS ⋯)) a.bF,hv (em (.b (.l (.b .a .W) (.b .a .r)))) a.i,pB a.c,hv (k7 (.b (.l (.b .a .W) (.b .a .L))) [-1]) a.K,hv (k7 (.b (.l (.b .a .W) (.b .a (.y 4)))) [-1]) a.e,a.b.X a.c⟩
theorem gd.l (a:gd h f au cV eK d'):gd (h.X (f+3) (.y (mQ.map x.e))) f au cV eK mQ:=⟨hv (em (.b (.l (.b .a .L) .a))) a.bF,hv (em (.b (.l (.b .a .L) (.b .a .r)))) a.i,hv (em (.b (.l (.b .a .L) (.b .a .W)))) a.c,pB a.K,hv (k7 (.b (.l (.b .a .L) (.b .a (.y 4)))) [-1]) a.e,a.b.X a.K⟩
def Ig (s d:aq)(p:j)(a b:E)(c:m):Prop:=∀i o,i≠aT (p+2)->i≠aT (p+3)->(D (s.b a c b))[i]?=O o->(D (d.b a c b))[i]?=O o
def Ih (a:z=f+2\/z=f+3):Ig h (h.X z aZ) f k I d:= λi g b c e=>by
 show((D (h.b k d I)).set (aT z) aZ)[i]?=_;rcases a with rfl|rfl
 ·rw[sB b.symm];exact e
 ·rw[sB c.symm];exact e
theorem ac0 (j:gd h f au cV eK d')(u:L eK+L d'+1<90000)(s:∀n,gd n f au cV (eK++pA bP) (d'++kV bP)->hL h n->Ig h n f k I d->G .next (il p (aT (f+4)) o (O bP.u)) (D (n.b k d I))):qV q A bP.u (il p (aT (f+4)) o M) (D (h.b k d I)) G:=by
 have c:∀{g:m}{r:E},(g=1\/g=2\/g=19\/g=14\/g=15\/g=13\/g=20\/g=21\/g=31\/g=8)->bP.u=.r (.e g::r)->pA bP=[]->kV bP=[]->qV q A bP.u (il p (aT (f+4)) o M) (D (h.b k d I)) G:= λv e y B=>by have:=s h (by rw[y,B,ca,ca];exact j) .D (λa a a a j=>j);rw[e]at this⊢;exact(acV v).mpr this
 cases bP with
 |K i a=>exact acT.mpr (ba (bO j.e) (fh aa (ba (bW:=.c (aT (f+3))) aa (nx j.K (ck (.lt .a (.y 100000)) (.lt (.b (.b .e .a) .r) (.y 90000)) u) (s _ (by rw[show eK++pA (.K i a)=eK from ca _];exact j.l) .X (Ih (.inr aa)))))))
 |d i l e=>exact acU.mpr (ba (bO j.e) (fh aa (ba (bW:=.c (aT (f+2))) aa (nx j.c (ck (.lt .a (.y 100000)) (.lt (.b (.b .a .e) .r) (.y 90000)) u) (s _ (by rw[show d'++kV (.d i l e)=d' from ca _];exact j.r) .X (Ih (.inl aa)))))))
 |p i bP=>exact c (.inl aa) aa aa aa
 |h i l=>exact c (.inr (.inl aa)) aa aa aa
 |conv i e o=>exact c (ey (.inl aa)) aa aa aa
 |q i C a b=>exact c (mj (.inl aa)) aa aa aa
 |t a b=>exact c (nM (.inl aa)) aa aa aa
 |z a=>exact c (rv (.inl aa)) aa aa aa
 |is e i=>exact c (pZ (.inl aa)) aa aa aa
 |v i e=>exact c (rx (.inl aa)) aa aa aa
 |w a e=>exact c (s5 (.inl aa)) aa aa aa
 |A i e=>exact c (s6 aa) aa aa aa
 |G C i e=>exact c (s6 aa) aa aa aa
 |B a b=>exact c (s6 aa) aa aa aa
def ac1 (g:aq)(p:j)(P G W k:bk)(b d:E)(e:m)(v:x)(c:m)(i:j)(f l:n aE)(L:aS)(H:Z):Prop:=∀M:aS->bI,(∀(h:aq)(a:n aE)(o:be),a++l=f->gd h p P G (W++a.flatMap pA) (k++a.flatMap kV)->hL g h->(D (h.b b e d))[i]?=O (.y (f.map aE.u))->M (il v (aT (p+4)) c o) (D (h.b b e d)))->M L H
def Ii (a:g8 (e2 a9)=af)(e:bH cg (e2 a9)=O p)(k:cS p):gi (.f a9) (.K cg) cS:=fh a (ba e k)
def Ij (h:O (aX.y k)=O (aX.y I)):k=I:=by injection h with h;injection h
def ac2 (e:h.l[f]?=O aZ):h.X f aZ=h:=by
 have:h.l.set f aZ=h.l:=by
  refine KX λb=>?_;by_cases a:f=b
  ·subst a;rw[J1 (cs.mp e).1,e]
  ·rw[sB a]
 show{h with l:=h.l.set f aZ}=h;rw[this]
theorem Ik (h:(bP.s.map aE.u)=au.map x.e):False:=by
 rw[aE.aR]at h;refine bu bP.r λm c=>?_;induction au using cv with
 |nil=>injection h
 |cons a au=>
  have h:bP.u::_=x.e a::au.map x.e:=h;injection h with b _
  rw[c]at b;injection b
theorem ac3 (r:gd h f au cV eK d') (s:(D (h.b k d I))[z]?=O (.y (bP.s.map aE.u))) (t:L eK+L bP.W+(L d'+L bP.ab)+1<90000)
 (v:∀g M,gd g f au cV (eK++bP.W) (d'++bP.ab)->hL h g->G .next (il p (aT (f+4)) o M) (D (g.b k d I))):ds (qV q A) ⟨bP.s.map aE.u,O z⟩ (bP.s.map aE.u) (il p (aT (f+4)) o M) (D (h.b k d I)) G:=by
 refine n6 (fG:=⟨bP.s.map aE.u,O z⟩) (ac1 h f au cV eK d' k I d p o z bP.s) (λi T w H K J y T=>?_) (λw H J=>?_) λB K=>K h [] M aa (by rw[K1,K1,ca,ca];exact r) .D s
 ·apply J;intro n e M b c u a
  ·have C:z≠aT (f+2):= λl=>by subst l;rw[bO c.c]at a;exact Ik (Ij a).symm
   have E:z≠aT (f+3):= λl=>by subst l;rw[bO c.K]at a;exact Ik (Ij a).symm
   have F:L (e.flatMap pA)<=L bP.W:=by unfold aE.W;rw[<-b,kb,a6];exact cZ _ _
   have N:L (e.flatMap kV)<=L bP.ab:=by unfold aE.ab;rw[<-b,kb,a6];exact cZ _ _
   refine⟨a,ac0 (bP:=i) c (by rw[a6,a6];exact hB [_,_,_,_,_,_] [] (.lt (.b (.b (.b .a .e) (.b .l .s)) .r) (.y 90000)) (.lt (.b (.b (.b .a .X) (.b .l .ab)) .r) (.y 90000)) (.le .e .X) (.le .s .ab) t F N) λP Q R S=>(y _ _ λB K=>K P (e++[i]) (O i.u) (by rw[bU];exact b) ?_ (u.y R) (S z _ C E a))⟩;rw[kb,kb,pU,pU,<-bU,<-bU];exact Q
 ·apply J;intro n e M b c u a;rw[ca]at b;subst b;exact⟨a,v n M c u⟩
theorem xg (S:b4 q V){e:aE}{c:m}{r:E}(p:c=1\/c=12\/c=22\/c=23)(n:gd h f au cV eK d')(a:e.aL h.u h.c)(s:L eK+L e.W+(L d'+L e.ab)+1<90000)
 (t:∀b j,gd b f au cV (eK++e.W) (d'++e.ab)->hL h b->a' (aw q (V 21) 9) [pg,ph,pi] (il (.r (.e c::e.u::r)) (aT (f+4)) c j) (D (b.b k d I)) (ch w)):
 V 22 1371 [.c 18,.r (.e c::e.u::r),.c (aT (f+4))] (D (h.b k d I)) w:=by
 have o:=acI (k:=k) (I:=I) (d:=d) S n.b a.y a.aw a.c [];rw[show h.C []=h by show{h with l:=h.l++[]}=h;rw[ca]]at o;refine S.r ((acR p).mpr (o _ λg=>?_));show a' (aw q (V 21) 9) (wI:: [pg,ph,pi]) (il (.r (.e c::e.u::r)) (aT (f+4)) c ab) (D ((h.C ([]++g)).b k d I)) (ch w);refine bx.mpr (acS.mpr (acO S a.y a.aw a.kO _ _ λv i l=>ba l ?_));rw[xe]at l⊢;refine ac3 (h:=(h.C ([]++g)).C v) n.C.C l s λb j x u=>bq (t b j x (hL.y .C (hL.y .C u)))
theorem ac4 (a:gd h f au cV eK d')(b:L cV<90000)(c:dm (D ((h.X (f+1) (.y ((cV++[o]).map x.e))).b k d I))):eP (.c (aT (f+4))) 76 (D (h.b k d I)) λf=>l8 q A f (.e o) (D (h.b k d I)) dm:=
 ba (bO a.e) (fh aa (ba (bW:=.c (aT (f+1))) aa (nx a.i (kE b ⋯) c)))
theorem ac5 (n:b4 q V){a:S}(b:gd h f au cV eK d')(s:a.aL h.u h.c)(o:L eK+L a.W+(L d'+L a.ab)+1<90000)(A:L au+1<90000)(v:L cV+L a.i+1<90000)
 (g:∀i,gd i f (au++a.bF) (cV++a.i) (eK++a.W) (d'++a.ab)->hL h i->w (.d af) (D (i.b k d I))):V 22 1371 [.c 18,a.u,.c (aT (f+4))] (D (h.b k d I)) w:=by
 have p:∀e:aE,[e].flatMap aE.W=e.W/\ [e].flatMap aE.ab=e.ab:= λe=>⟨pU ..,pU ..⟩;induction a using sY with
 |a l=>refine n.c4 (show 1<=22 by decide) (n.r (acP.mpr (ba (bO b.e) (Ii (p:=.c (aT f)) aa aa (nx b.bF (ec (.lt .a (.y 100000)) (.lt (.b .a .r) (.y 90000)) A) (g _ ?_ .X))))));rw[show cV++(S.a l).i=cV from ca _,show eK++(S.a l).W=eK from ca _,show d'++(S.a l).ab=d' from ca _];exact b.u
 |bw l=>refine n.c4 (show 1<=22 by decide) (n.r (acQ.mpr (ba (bO b.e) (Ii (p:=.c (aT (f+1))) aa aa (nx b.i (ck (.lt .a (.y 100000)) (.lt (.b (.b .a .e) .r) (.y 90000)) v) (g _ ?_ .X))))));rw[show au++(S.bw l).bF=au from ca _,show eK++(S.bw l).W=eK from ca _,show d'++(S.bw l).ab=d' from ca _];exact b.a
 |r e=>rw[(show(S.r e).W=e.W from(p e).1),(show(S.r e).ab=e.ab from(p e).2)]at o g;refine xg n (e:=e) (r:=[]) (.inl aa) b (s.1 e (cz.mpr aa)) o λi y j u=>acW.mpr (g i ?_ u);rw[show au++(S.r e).bF=au from ca _,show cV++(S.r e).i=cV from ca _];exact j
 |c m=>rw[(show(S.c m).W=(aE.K 7 m).W from(p _).1),(show(S.c m).ab=(aE.K 7 m).ab from(p _).2)]at o g;refine xg n (e:=.K 7 m) (r:=[]) (.inr (.inl aa)) b (s.1 _ (cz.mpr aa)) o λi y j u=>acX.mpr (g i ?_ u);rw[show au++(S.c m).bF=au from ca _,show cV++(S.c m).i=cV from ca _];exact j
 |b e m l=>rw[(show(S.b e m l).W=e.W from(p e).1),(show(S.b e m l).ab=e.ab from(p e).2)]at o g;refine eO e.C λB r t=>?_;rw[s.2.1]at t;refine xg n (e:=e) (r:=[.e m,.e l]) (ey (.inl aa)) b (s.1 _ (cz.mpr aa)) o λi y j u=>?_;rw[t];refine(acY s.2.2).mpr (ac4 j (ec (.lt .a (.y 90000)) (.lt (.b (.b .a .r) .r) (.y 90000)) v) (g _ ?_ (u.y .X)));rw[show au++(S.b e m l).bF=au from ca _];exact j.a
 |d e m=>rw[(show(S.d e m).W=e.W from(p e).1),(show(S.d e m).ab=e.ab from(p e).2)]at o g;refine eO e.C λB r t=>xg n (e:=e) (r:=[.r (m.map x.e)]) (mj aa) b (s.1 _ (cz.mpr aa)) o λi y j u=>?_;rw[t];refine(acZ s.2.1).mpr (ba (bO j.e) (fh aa (ba (bW:=.c (aT (f+1))) aa (l5 ?_))));refine ki (bO (ix j.i)) (ki (bO mP) (fM (aU (show L (cV.map x.e)+L (m.map x.e)<=90000 by rw[cj,cj];exact ck (.le (.b .a .e) (.y 90000)) (.lt (.b (.b .a .e) .r) (.y 90000)) v) ⋯) ?_));rw[<-eu];have z:=(j.C (c:=[.y (m.map x.e)])).a (mQ:=cV++m);refine ba (bO z.e) (fh (bs:=g8 76) aa (fM (f:=5) ⋯ ?_));have:=g ((i.C [.y (m.map x.e)]).X (f+1) (.y ((cV++m).map x.e))) (by rw[show au++(S.d e m).bF=au from ca _];exact z) (u.y (hL.y .C .X));rw[<-ac2 z.e]at this;exact this
structure fm (t:aq)(c:E)(B:j)(H:Z)(a:cd)(s:aq)(d:n S)(f:m):Prop where
 r:eY H a (D (s.b (d.map S.u) f []))
 ext:∃e,a=jd t++e
 fe:H[B]?=O (.y c)
 b:B∉a
theorem fm.C (F:fm h k f c aC am ai d)(P:H0 c aC tJ p U bb l7)(e:tJ=D (cN.b (dY.map S.u) o [])):fm h k f bb l7 cN dY o:=by
 subst e;refine aL P.ext ?_;rintro e rfl g;refine bu F.ext λi l=>?_;have b:=(cs.mp F.fe).1;refine⟨P.r,⟨i++e,by rw[l,bU]⟩,by rw[P.a f b F.b];exact F.fe,λa=>(gQ (et.mp a) (λa=>F.b a) λa=>?_)⟩
 ·have:=g f a;exact k' .F (.lt .a .e) (.le .e .a) b this
theorem fO.b {K:Type} [iU K] {c:cd}{d m:n (K×x)}(h:fO c d m){k:K}{v:x}(e:bH d k=O v):∃w,bH m k=O w/\dG c v w:=by
 induction h with
 |l=>injection e
 | @a b f y g i r _ j=>
   have e:(if b=k then O f else bH g k)=O v:=e;refine(?_:∃w,(if b=k then O y else bH i k)=O w/\_);by_cases q:b=k
   ·rw[cP q]at e⊢;replace e:=aY e;subst e;exact⟨y,aa,r⟩
   ·rw[ce q]at e⊢;exact j e
theorem eY.a (A:eY c aC bb){i a b:j}{C:ac}{d:n (j×x)}{v:x} (e:aC[i]?=O a) (g:bb[i]?=O (.a C d)) (h:bH d b=O v):∃f w,c[a]?=O (.a C f)/\bH f b=O w/\dG aC v w:=by
 refine aL (A.e i a _ e g) λo f r=>?_;cases r with
 |a _ r=>exact aL (r.b h) λw k l=>⟨_,w,f,k,l⟩
theorem eY.K (A:eY c aC bb){i a b:j}{d:n (j×x)}{v:x} (e:aC[i]?=O a) (g:bb[i]?=O (.K d)) (h:bH d b=O v):∃f w,c[a]?=O (.K f)/\bH f b=O w/\dG aC v w:=by
 refine aL (A.e i a _ e g) λo f r=>?_;cases r with
 |K r=>exact aL (r.b h) λw k l=>⟨_,w,f,k,l⟩
theorem eY.y (A:eY c aC bb){i a:j}{l:E} (e:aC[i]?=O a) (d:bb[i]?=O (.y l)) (f:gZ l):c[a]?=O (.y l):=by
 refine aL (A.e i a _ e d) λo b r=>?_;cases r with
 |y r=>rw[(f aC _).2 r]at b;exact b
theorem dG.D (a:dG aC p U):p.D fZ (i:= λi=>U=.e i):=by induction a using dG.casesOn<;>first|trivial|rfl
def dG.y (a:dG aC p U):p.D fZ (r:= λi=>∃j,U=.c j/\aC[i]?=O j):=by induction a using dG.casesOn<;>first|trivial|exact⟨_,aa,‹_›⟩
def dG.u (h:dG aC (.c f) p):∃a,p=.c a/\aC[f]?=O a:=h.y
theorem eY.C (A:eY c aC bb){i b a:j}{C:ac}{f:n (j×x)} (e:aC[i]?=O b) (g:bb[i]?=O (.a C f)) (h:bH f a=O (.e d))(o:(al q).x C a=af)(k:cS (.e d)):gH (al q) (.c b) a c cS:=
 d0 (A.a e g h) λs w l p r=>ba l (fh o (ba p ((r.D:w=.e d)▸k)))
theorem eY.ab (A:eY c aC bb){i b a:j}{C:ac}{d:n (j×x)} (e:aC[i]?=O b) (g:bb[i]?=O (.a C d)) (h:bH d a=O (.c f))(o:(al q).x C a=af) (l:aC[f]?=O z) (k:cS (.c z)):gH (al q) (.c b) a c cS:=
 d0 (A.a e g h) λu w m p r=>aL r.y λu s t=>ba m (fh o (ba p (s▸aY (l.symm.trans t)▸k)))
theorem eY.l (A:eY c aC bb){i a:j}{l:E} (e:aC[i]?=O a) (b:bb[i]?=O (.y l)) (k:∀m,c[a]?=O (.y m)->d1 aC l m->aV):aV:=
 aL (A.e i a _ e b) λo d r=>by cases r with|y r=>exact k _ d r
def gZ.K (l:bk):gZ (l.map x.e):=.W λv a=>by refine aL (f2.mp a) ?_;rintro i b rfl;exact .e
theorem S.an (h:eX.aL aj au):kT eX.u:=by
 have n:∀{v:x},cB 9 v=af->kT v:= λh=>.cB 9 h;induction eX using sY with
 |r e=>exact .r (.a (n aa) (.a (aE.an (h.1 e (cz.mpr aa)).aw) .l))
 |c f=>exact n aa
 |a l=>exact n aa
 |bw l=>exact n aa
 |b e w l=>exact .r (.a (n aa) (.a (aE.an (h.1 e (cz.mpr aa)).aw) (.a (n aa) (.a (n aa) .l))))
 |d e f=>exact .r (.a (n aa) (.a (aE.an (h.1 e (cz.mpr aa)).aw) (.a (.r (gZ.K f)) .l)))
theorem ac6.an (h:∀c,c∈ai->c.aL aj au):gZ (ai.map S.u):=.W λv a=>by refine aL (f2.mp a) ?_;rintro c b rfl;exact S.an (h c b)
abbrev lw (a:ac)(b c d e f g:be)(l:aS):aS:=eJ a b (c::d::e::f::g::l)
theorem ac7:aw q A 9 r5 (lw ak M N Y ag ah ao ax) c G=mk c (.y []) λa c=>mk c (.y []) λb c=>mk c (.y []) λd c=>mk c (.y []) λe c=>mk c (.K [(49,a),(76,b),(87,d),(82,e)]) λaM c=>G .next (lw ak M N Y ag ah (O aM) ax) c:=()
abbrev Il (a:ac->Q E)(C:aQ):f4:= λp L c hu=>(ei (al a) C 13).c (.s 13) p L c λL c=>a' (aw a C 8) [G9] L c hu
def ac8:aw q A 9 qy (lw ak M N (O U) ag ah ao ax) c G=gH (al q) U 45 c λy=>kk c y λt=>ds (Il q A) t t.a (lw ak M N (O U) ag ah ao ax) c G:=()
theorem ac9:Il q A p (lw ak M N Y ag ah (O aM) ax) c G=A 1371 [.c 18,p,aM] c λb c=>a7 (li c b) λb=>bB (!b) (G (.c (.d aN)) (lw ak M N Y ag (O p) (O aM) ax) c) (G .next (lw ak M N Y ag (O p) (O aM) ax) c):=()
theorem fm.X (F:fm h k f c aC am ai d)(r:ej (aC++[L c]) aZ df):fm h k f (c++[df]) (aC++[L c]) (am.C [aZ]) ai d:=by
 refine bu F.ext λb e=>⟨F.r.X r,⟨b++[L c],by rw[e,bU]⟩,dj F.fe,λa=>?_⟩;rcases et.mp a with a|a
 ·exact F.b a
 ·have:=(cs.mp F.fe).1;rw[cz.mp a]at this;exact pM _ this
theorem fm.l (F:fm h k f c aC am ai d):L aC=aT (L am.l):=F.r.W
def fm.K (F:fm h k f c aC am ai d){p:j}(a:L am.l=p):(aC++[L c])[aT p]?=O (L c):=by subst a;rw[<-F.l];exact jz
def so (a:L h.l=f):L (h.C [aZ]).l=f+1:=by subst a;exact a6
theorem fm.u (F:fm h k f c aC am ai d):fm h k f (c++bb) aC am ai d:=⟨F.r.u,F.ext,dj F.fe,F.b⟩
theorem fm.W (F:fm h k f c aC am ai d)(r:cI am){P:Z->x->Prop} (K:∀b e a z,fm h k f b e a ai d->gd a (L am.l) [] [] [] []->hL am a->e[aT (L am.l+4)]?=O z->P b (.c z)):
 Internal.mk c (.y []) λg c=>Internal.mk c (.y []) λi c=>Internal.mk c (.y []) λj c=>Internal.mk c (.y []) λl c=>Internal.mk c (.K [(49,g),(76,i),(87,j),(82,l)]) λz c=>P c z:=by
 have g:=F.X (.y .l);have i:=g.X (aZ:=.y []) (df:=.y []) (.y .l);have j:=i.X (aZ:=.y []) (df:=.y []) (.y .l);have l:=j.X (aZ:=.y []) (df:=.y []) (.y .l);have m:L am.l=L am.l:=aa;have n:=so (aZ:=.y []) m;have o:=so (aZ:=.y []) n;have p:=so (aZ:=.y []) o;have q:=l.X (aZ:=.K [(49,.c (aT (L am.l))),(76,.c (aT (L am.l+1))),(87,.c (aT (L am.l+2))),(82,.c (aT (L am.l+3)))]) (.K (.a (.c (dj (dj (dj (dj (F.K m)))))) (.a (.c (dj (dj (dj (g.K n))))) (.a (.c (dj (dj (i.K o)))) (.a (.c (dj (j.K p))) .l)))));rw[kU,kU,kU,kU]at q;exact hY (hY (hY (hY (hY (K _ _ _ _ q ⟨l6 (c:=am.l) (z:=0) aa,l6 (c:=am.l) (z:=1) aa,l6 (c:=am.l) (z:=2) aa,l6 (c:=am.l) (z:=3) aa,l6 (c:=am.l) (z:=4) aa,r.C⟩ .C (l.K (so (aZ:=.y []) p)))))))
def du (a:n S):bk:=a.flatMap S.bF
def g0 (a:n S):bk:=a.flatMap S.i
def gv (a:n S):bk:=a.flatMap S.W
def fB (a:n S):bk:=a.flatMap S.ab
def xh {a:S->bk}(h:L ((ai++eX::dY).flatMap a)<=f):L (ai.flatMap a)+L (a eX)<=f:=by rw[kb,CA,a6,a6]at h;exact gp [_,_,_,_] [] (.le (.b .a .e) .l) (.le (.b .a (.b .e .s)) .l) h
def aea (t:aq)(d:E)(B:j)(b:n S)(e:m)(f:aq)(p z:j)(g:ac)(h i k o:be)(l:aS)(q:n S)(L:aS)(H:Z):Prop:=∀P:aS->Prop,(∀(c:cd)(s:aq)(a:n S)(ag:be),a++q=b->fm t d B H c s b e->gd s p (du a) (g0 a) (gv a) (fB a)->hL f s->c[aT (p+4)]?=O z->P (lw g h i k o ag (O (.c z)) l))->P L
theorem fm.a (F:fm h k f c aC am ai d):aC[75]?=O (L (D h)+0)/\aC[76]?=O (L (D h)+1)/\∀i,i<75->aC[i]?=O i:=by refine bu F.ext ?_;rintro e rfl;exact⟨dj (sm (f:=0) ⋯),dj (sm (f:=1) ⋯),λi a=>dj (H3 a)⟩
def fm.i (F:fm h k f c aC am ai d)(b:∀a,a∈ai->a.aL aj au):c[L (D h)+1]?=O (.y (ai.map S.u)):=
 F.r.y F.a.2.1 aa (ac6.an b)
theorem fm.ab (F:fm h k f c aC am ai d)(a:cS (.c (L (D h)+1))):gH (al q) (.c (L (D h)+0)) 45 c cS:=F.r.ab F.a.1 aa aa aa F.a.2.1 a
theorem aeb (v:b4 q V){t s:aq}{w:E}{B:j}{H:Z}{k:cd}{a:n S}{l:m}(U:22<=z)(F:fm t w B H k s a l)(W:cI s)(o:∀c,c∈a->c.aL s.u s.c)(X:L (gv a)<=40000)(CS:L (fB a)<=40000)(OL:L (du a)<=40000)(ajl:L (g0 a)<=40000)
 (K:∀H k x g ag,fm t w B H k x a l->gd x (L s.l) (du a) (g0 a) (gv a) (fB a)->hL s x->k[aT (L s.l+4)]?=O g->a' (aw q (ik q (V z) (f+9)) 9) dO (lw ak M N (O (.c (L (D t)+0))) Y ag (O (.c g)) ax) H G):
 a' (aw q (ik q (V z) (f+9)) 9) (r5::qy::dO) (lw ak M N (O (.c (L (D t)+0))) Y ag ab ax) H G:=by
 refine bx.mpr (ac7.mpr (F.W W (P:= λH g=>hX G (λA H=>a' (aw q (ik q (V z) (f+9)) 9) (qy::dO) A H G) .next (lw ak M N (O (.c (L (D t)+0))) Y ag (O g) ax) H) λe ajm ajn g C ajo ajp ajq=>bq (bx.mpr (ac8.mpr (C.ab (ba (C.i o) (n6 (fG:=⟨a.map S.u,O (L (D t)+1)⟩) (aea t w B a l s (L s.l) g ak M N (O (.c (L (D t)+0))) Y ax) (λc p A H K J ajr ajs=>?_) (λA H J=>?_) λP K=>K ajm ajn [] ag aa C ajo ajp ajq)))))))
 ·apply J;intro I r b ag d h Q i u
  ·have ajt:r.u=s.u:=by rw[i.c]
   have aju:r.c=s.c:=by rw[i.c]
   have R:=o c (by rw[<-d];exact gC _ (db ..):c∈a);have ajv:=xh (a:=S.W) (show L ((b++c::p).flatMap S.W)<=40000 by rw[d];exact X);have ajw:=xh (a:=S.ab) (show L ((b++c::p).flatMap S.ab)<=40000 by rw[d];exact CS);have ajx:=xh (a:=S.bF) (show L ((b++c::p).flatMap S.bF)<=40000 by rw[d];exact OL);have ajy:=xh (a:=S.i) (show L ((b++c::p).flatMap S.i)<=40000 by rw[d];exact ajl);refine⟨h.i o,ac9.mpr (mL aa (v.c4 U (w' v h.r (.a (.c (h.a.2.2 18 ⋯)) (.a (S.an R I c.u).1 (.a (.c u) .l))) (ac5 v Q (ajt▸aju▸R) (show L (b.flatMap S.W)+_+(L (b.flatMap S.ab)+_)+1<_ by exact kc (.lt (.b (.b (.b .a .e) (.b .l .s)) .r) (.y 90000)) (.le (.b .a .e) (.y 40000)) (.le (.b .l .s) (.y 40000)) ajv ajw) (show L (b.flatMap S.bF)+1<_ by exact ck (.lt (.b .a .r) (.y 90000)) (.le (.b .a .e) (.y 40000)) ajx) (show L (b.flatMap S.i)+_+1<_ by exact ck (.lt (.b (.b .a .e) .r) (.y 90000)) (.le (.b .a .e) (.y 40000)) ajy) λT ajz ajA y e ajB P=>?_))))⟩;have ajC:y=.d true:=by have:=P.val;cases this;rfl
   subst ajC;refine aL P.ext λe ajD ajs=>ajr _ _ λe K=>K ajB T (b++[c]) (O c.u) (by rw[bU];exact d) (h.C (dY:=a) (o:=l) (cN:=T) P aa) ?_ (i.y ajA) (by rw[ajD];exact dj u);unfold du g0 gv fB;rw[kb,kb,kb,kb,pU,pU,pU,pU];exact ajz
 ·apply J;intro I r b ag d h Q i u;rw[ca]at d;subst d;exact⟨h.i o,bq (K H I r g ag h Q i u)⟩
abbrev fY (a:ac)(b c d e f g h i j:be)(l:aS):aS:=lw a b c d e f g (h::i::j::l)
abbrev Im (a:ac->Q E)(C:aQ):f4:= λp L c hu=>(ei (al a) C 13).c (.s 15) p L c λL c=>a' (aw a C 8) [G'] L c hu
def aec:aw q A 9 qz (fY ak M N Y ag ah (O aM) aJ bc bA ax) c G=eP aM 76 c λy=>kk c y λt=>ds (Im q A) t t.a (fY ak M N Y ag ah (O aM) aJ bc bA ax) c G:=()
theorem aed:Im q A p (fY ak M N Y ag ah (O aM) aJ bc bA ax) c G=eP aM 49 c λa=>p4 (al q) p a c λb=>bB (!b) (G (.c (.d aN)) (fY ak M N Y ag ah (O aM) (O p) bc bA ax) c) (G .next (fY ak M N Y ag ah (O aM) (O p) bc bA ax) c):=()
def aee:aw q A 9 r6 (fY ak M N Y ag ah (O aM) aJ bc bA ax) c G=eP aM 49 c λp=>jp p λa=>a7 c[a]? λo=>oZ c o λy c=>G .next (fY ak M N Y ag ah (O aM) aJ (O y) bA ax) c:=()
abbrev Io (a:ac->Q E)(C:aQ)(w:x):x->Z->(be->bI)->Prop:=ni (ei (al a) C 10) (.s 0) (.s 0) [(.p .Eq (.bz (.s 1) (.s 0)) (.bz (.s 1) (.q .Sub (.s 0) (.d (.e 1)))))] [ab,O w]
theorem aef:aw q A 9 qA (fY ak M N Y ag ah ao aJ (O (.c f)) bA ax) c G=a7 c[f]? λo=>i6 o λi=>js [.e 1,.e i] λb=>hn (Io q A (.c f)) ⟨b,ab⟩ (L c) b (c++[.y []]) λa=>a7 a[L c]? λo=>i6 o λi=>bB (an (0<i)) (G (.c (.d aN)) (fY ak M N Y ag ah ao aJ (O (.c f)) bA ax) a) (G .next (fY ak M N Y ag ah ao aJ (O (.c f)) bA ax) a):=()
def aeg:Io q A (.c f) (.e d) c ku=a7 c[f]? λo=>gi (.e d) o λx=>a7 c[f]? λo=>gi (.e (d-1)) o λy=>dg c x y λb=>bB b (ku (O (.e d)) c) (ku ab c):=()
theorem aeh:aw q A 9 qB (fY ak M N Y ag ah (O aM) aJ bc bA ax) c G=eP aM 82 c λp=>jp p λa=>a7 c[a]? λo=>oZ c o λy c=>eP (.c 18) 19 c λp=>jp p λa=>a7 c[a]? λo=>oZ c o λU c=>dg c y U λb=>bB (!b) (G (.c (.d aN)) (fY ak M N Y ag ah (O aM) aJ bc bA ax) c) (G .next (fY ak M N Y ag ah (O aM) aJ bc bA ax) c):=()
abbrev Ip (a:ac->Q E)(C:aQ):f4:= λp L c hu=>(ei (al a) C 13).c (.s 17) p L c λL c=>a' (aw a C 8) [Ha] L c hu
theorem aei:aw q A 9 qC (fY ak M (O (.e d)) Y ag ah ao aJ bc bA ax) c G=gH (al q) (.c 63) 69 c λy=>yw y (.e d) c λy c=>kk c y λt=>ds (Ip q A) t t.a (fY ak M (O (.e d)) Y ag ah ao aJ bc bA ax) c G:=()
theorem aej:Ip q A p (fY ak M N Y ag ah (O aM) aJ bc bA ax) c G=gH (al q) p 35 c λi=>eP aM 87 c λa=>p4 (al q) i a c λb=>bB (!b) (G (.c (.d aN)) (fY ak M N Y ag ah (O aM) aJ bc (O p) ax) c) (gH (al q) p 22 c λf=>gH (al q) p 46 c λo=>dg c (.r [f,o]) (.r [.e 32,.e 1]) λb=>bB (!b) (G (.c (.d aN)) (fY ak M N Y ag ah (O aM) aJ bc (O p) ax) c) (G .next (fY ak M N Y ag ah (O aM) aJ bc (O p) ax) c)):=()
theorem Iq (h:d∈au)(k:gI af):lO c (.e d) (au.map x.e) gI:=by refine ba (bW:=.int d) aa (ba (Bc (λi=>aa) au) ?_);have:(au.map KV).any (λe=>pN e (.int d))=true:=Kv.mpr ⟨.int d,nI h,dz aa⟩;rw[this];exact k
theorem Ir:∀ax:bk,mq (ax.map x.e)=O ax
 |[]=>aa
 |a::ax=>by refine(?_:(mq (ax.map x.e)).map (a::·)=_);rw[Ir ax];rfl
def It (a:L au<64)(q:w (.c (L c)) (c++[.y ((kj au).map x.e)])):oZ c (.y (au.map x.e)) w:=by refine fh (by rw[cj];exact f0 a) ?_;rw[Ir];exact hY q
def aek (a:L aI<64)(q:w (.c (L c)) (c++[.y ((kj (aI.map (·.1))).map x.e)])):oZ c (.h aI) w:=fh (f0 a) (hY q)
theorem ael (h:au.Perm cV):kj au=kj cV:=by
 have c:∀a b d:m,an (a<=b)=af->an (b<=d)=af->an (a<=d)=true:= λa b d h k=>dz (jh (dT h) (dT k));have e:∀a b:m,(an (a<=b)||decide (b<=a))=true:= λa b=>by
  refine gQ (Int.le_total a b) (λh=>?_) λh=>?_
  ·rw[dz h];rfl
  ·rw[dz h,Bool.or_true]
 exact List.Perm.eq_of_pairwise (le:= λa b=>an (a<=b)=af) (λa b f f h k=>lA (dT h) (dT k)) (Cd c e au) (Cd c e cV) ((u3 au _).trans (h.trans (u3 cV _).symm))
theorem aem (h:au.Nodup):(kj au).Pairwise (·<·):=by
 have c:∀a b:m,(an (a<=b)||decide (b<=a))=true:= λa b=>by
  refine gQ (Int.le_total a b) (λh=>?_) λh=>?_
  ·rw[dz h];rfl
  ·rw[dz h,Bool.or_true]
 exact((Cd (show∀a b d:m,an (a<=b)=af->an (b<=d)=af->an (a<=d)=af fromλa b d h k=>dz (jh (dT h) (dT k))) c au).and ((u3 au _).nodup_iff.mpr h)).imp λ⟨a,b⟩=>aiL.mpr ⟨dT a,b⟩
structure qW (H:Z)(z i k l m:j)(g:n (j×x))(P G W R:bk):Prop where
 D:H[z]?=O (.K g)
 a:bH g 49=O (.c i)
 c:bH g 76=O (.c k)
 e:bH g 87=O (.c l)
 f:bH g 82=O (.c m)
 b:H[i]?=O (.y (P.map x.e))
 d:H[k]?=O (.y (G.map x.e))
 bC:H[l]?=O (.y (W.map x.e))
 h:H[m]?=O (.y (R.map x.e))
def qW.u (h:qW c f z aK bf el cg au cV eK d'):qW (c++bb) f z aK bf el cg au cV eK d':=
 ⟨dj h.D,h.a,h.c,h.e,h.f,dj h.b,dj h.d,dj h.bC,dj h.h⟩
theorem d1.b:∀{b m:E}{i:j}{w:x},d1 aC b m->m[i]?=O w->∃v,b[i]?=O v/\dG aC v w:=by
 intro b m i w h;refine h.r (P:= λb m=>∀i,m[i]?=O w->∃v,b[i]?=O v/\dG aC v w) (λi e=>by injection e) (λ{c y c c} h _ c i=>?_) i;induction i using dx with
 |zero=>exactλe=>⟨_,aa,aY e▸h⟩
 |succ i=>exact c i
def d1.W:∀{l m:E},d1 aC l m->L m=L l:=
 λh=>h.r (P:= λl m=>L m=L l) aa λa a=>cp (·+1)
def fO.i (h:fO aC fg jA):jA.map (·.1)=fg.map (·.1):=by
 induction h with
 |l=>rfl
 |a _ _ b=>exact cp (_::·) b
def gw (e:c[f]?=O (.K cg)) (a:bH cg z=O p)(q:cS p):eP (.c f) z c cS:=ba e (ba a q)
theorem aen (h:qW c aK bf el h7 iZ cg au cV eK d')(j:∀a,a∈cV->a∈au)(k:∀aJ,G .next (fY ak M N Y ag ah (O (.c aK)) aJ bc bA ax) c):aw q A 9 qz (fY ak M N Y ag ah (O (.c aK)) aJ bc bA ax) c G:=by
 refine aec.mpr (gw h.D h.c (ba h.d (Am (fG:=⟨cV.map x.e,O el⟩) (λb L e=>∃d aJ,b=d.map x.e/\(∀a,a∈d->a∈cV)/\L=fY ak M N Y ag ah (O (.c aK)) aJ bc bA ax/\e=c) ?_ ?_ ⟨cV,aJ,aa,λl h=>h,aa,aa⟩)))
 ·intro v r L e K i m l;refine gG i ?_;clear i;rintro d aJ f g rfl rfl;induction d using cv with
  |nil=>injection f
  |cons a d=>
   injection f with n o
   subst n;exact⟨h.d,aed.mpr (gw h.D h.a (ba h.b (Iq (gI:= λb=>bB (!b) _ _) (j a (g a (db ..))) (m _ _ ⟨d,_,o,λb p=>g b (dy _ p),aa,aa⟩))))⟩
 ·intro L e b;refine gG b ?_;clear b;rintro d aJ f g rfl rfl;exact⟨h.d,k _⟩
def aeo (e:L k=f)(h:f<=10^12){F:E->Prop}(q:F (fT 1 (f-1))):i6 (.y k) λi=>js [.e 1,.e i] F:=by subst e;refine fh (f0 h) ?_;rw[show((L k:m)-1).toNat=L k-1 from Int.toNat_sub (L k) 1];exact q
theorem aep (e:c[f]?=O (.y (au.map x.e))) (t:au.Pairwise (·<·))(u:L au<64)(w:G .next (fY ak M N Y ag ah ao aJ (O (.c f)) bA ax) (c++[.y []])):aw q A 9 qA (fY ak M N Y ag ah ao aJ (O (.c f)) bA ax) c G:=by
 refine aef.mpr (ba e (aeo (cj ..) (aU (hy u) ⋯) (An (fG:=⟨fT 1 (L au-1),ab⟩) (λa g=>∃k:j,a=fT ((k:m)+1) (L a)/\(L a=0\/k+1+L a<=L au)/\g=c++[.y []]) ?_ ?_ ⟨0,by rw[wR];rfl,by rw[wR];exact(Nat.eq_zero_or_pos _).imp_right λh=>by rw[m1];exact he (sy (hy (Nat.lt_of_sub_pos h))),aa⟩)))
 ·intro v r g K i y C;refine dU i ?_;clear i;rintro k d l rfl;have d:v::r=.e ((k:m)+1)::fT ((k:m)+1+1) (L r):=d;injection d with z B
  subst z;have a:k+1+(L r+1)<=L au:=l.resolve_left (KW _);have n:(c++[aX.y []])[f]?=O (.y (au.map x.e)):=dj e;have o:∀{p:j}{s:m},au[p]?=O s->(au.map x.e)[p]?=O (.e s):= λh=>by rw[h4,h];rfl
  refine aeg.mpr (ba n (ba (fL:=dD (au.map x.e) ((k:m)+1)) (o (eM (ex (.lt (.b .a .r) .e) (.le (.b (.b .a .r) (.b .l .r)) .e) a))) (ba n ?_)));rw[Int.add_sub_cancel];refine ba (fL:=dD (au.map x.e) (k:m)) (o (eM (ex (.lt .a .e) (.le (.b (.b .a .r) (.b .l .r)) .e) a))) (?_:(λb=>bB b _ _) (an (au[k+1]=au[k])));rw[cL (u6 (air.mp t k (k+1) (ex (.lt .a .e) (.le (.b (.b .a .r) (.b .l .r)) .e) a) (ex (.lt (.b .a .r) .e) (.le (.b (.b .a .r) (.b .l .r)) .e) a) (hi k)))];exact y _ ⟨k+1,by rw[B,wR];rfl,.inr (ex (.le (.b (.b (.b .a .r) .r) .e) .l) (.le (.b (.b .a .r) (.b .e .r)) .l) a),aa⟩
 ·intro g a;refine dU a ?_;clear a;rintro k d l rfl;exact ba jz w
theorem fm.af (F:fm h k f c aC am ai d)(a:gd am z au cV eK d') (b:aC[aT (z+4)]?=O aK):∃bf el h7 iZ cg,qW c aK bf el h7 iZ cg au cV eK d':=by
 have A:=F.r;refine aL (A.e _ _ _ b (bO a.e)) λo e r=>?_;cases r with
 |K r=>refine aL (r.b (k:=49) (v:=.c (aT z)) aa) λo g i=>aL (r.b (k:=76) (v:=.c (aT (z+1))) aa) λo l p=>aL (r.b (k:=87) (v:=.c (aT (z+2))) aa) λo q s=>aL (r.b (k:=82) (v:=.c (aT (z+3))) aa) λo t u=>?_;refine aL i.u ?_;rintro v rfl w;refine aL p.u ?_;rintro x rfl y;refine aL s.u ?_;rintro B rfl C;refine aL u.u ?_;rintro D rfl G;exact⟨v,x,B,D,_,e,g,l,q,t,A.y w (bO a.bF) (gZ.K _),A.y y (bO a.i) (gZ.K _),A.y C (bO a.c) (gZ.K _),A.y G (bO a.K) (gZ.K _)⟩
theorem fm.fields (F:fm h k aK c aC am ai d){K:x->Prop} (q:∀z,c[16]?=O (.h z)->z.map (·.1)=(hH 1000 am.c).map (·.1)->K (.c 16)):eP (.c 18) 19 c K:=by
 refine d0 (F.r.K (i:=18) (a:=18) (b:=19) (v:=.c 16) (F.a.2.2 18 ⋯) aa aa) λcg w b e r=>?_;refine aL r.u ?_;rintro g rfl a;rw[F.a.2.2 16 ⋯]at a;replace a:=aY a;subst a;refine aL (F.r.e 16 16 (.h (hH 1000 am.c)) (F.a.2.2 16 ⋯) aa) λo f r=>?_;cases r with
 |h r=>exact ba b (ba e (q _ f r.i))
theorem aeq (F:fm h k f c aC am ai d)(a:qW c aK bf el h7 iZ cg au cV eK d')(b:d'.Perm ((hH 1000 am.c).map (·.1)))(e:L d'<64)(l:∀g,G .next (fY ak M N Y ag ah (O (.c aK)) aJ bc bA ax) (c++g)):aw q A 9 qB (fY ak M N Y ag ah (O (.c aK)) aJ bc bA ax) c G:=by
 refine aeh.mpr (gw a.D a.f (ba a.h (It e ((F.u (bb:=[.y ((kj d').map x.e)])).fields λz o i=>ba o (aek ?_ ?_)))))
 ·have:=b.length_eq;rw[<-i,cj]at this;exact lK (.lt .a (.y 64)) (.lt .e (.y 64)) (.l .e .a) [1,1,-1] e this
 ·rw[i,<-ael b];refine sn (au:=kj d') (dj jz) jz ?_;have:=l ([.y ((kj d').map x.e)]++[.y ((kj d').map x.e)]);rw[<-bU]at this;exact this
theorem aer (F:fm h k f c aC am ai d)(o:cI am)(s:qW c aK bf el h7 iZ cg au cV eK d')(P:gR<=L am.u) (Q:∀(i:j) a D,gR<=i->am.u[i]?=O (a,D)->((i+1:j):m)∈eK/\D=32)
 (R:∀g bA,G .next (fY ak M (O (.e (gR+1:j))) Y ag ah (O (.c aK)) aJ bc bA ax) (c++g)):aw q A 9 qC (fY ak M (O (.e (gR+1:j))) Y ag ah (O (.c aK)) aJ bc bA ax) c G:=by
 refine F.r.l (F.a.2.2 65 ⋯) aa λz T r=>?_
 ·refine aei.mpr (F.r.ab (F.a.2.2 63 ⋯) aa aa aa (F.a.2.2 65 ⋯) (ki T (fh (bs:=an ((0:m)<=((gR+1:j):m))&&an (((gR+1:j):m)<=L z)) (by rw[fu];exact⟨dz (em (.a .K (.d (.b .a .r)))),dz (g6 (.a (.d (.b .a .r)) (.d .e)) (.le .a .l) (.l .e (.b .l .r)) [1,1,-1] P (by rw[r.W,hM,cj,o.W]:z.length=am.u.length+1))⟩) (hY (ba jz (Am (fG:=⟨z.drop (gR+1),O (L c)⟩) (λH t w=>∃a bA,H=z.drop (gR+1+a)/\t=fY ak M (O (.e (gR+1:j))) Y ag ah (O (.c aK)) aJ bc bA ax/\w=c++[.y (z.drop (gR+1))]) ?_ ?_ ⟨0,bA,aa,aa,aa⟩))))))
  ·intro v H t w K I U p;refine d0 I ?_;clear I;rintro a bA J rfl rfl;have x:=AZ J.symm;refine aL (r.b x.1) λu e V=>?_;rw[show gR+1+a=gR+a+1 by exact m7 (.b (.b .a .r) .e) (.b (.b .a .e) .r)]at e x;have e:(am.d.map hV)[gR+a]?=O u:=e;have N:gR+a<L am.u:=by have:=(cs.mp e).1;rw[cj,o.W]at this;exact this
   obtain⟨p,l,p,y⟩:=o.r (eM N);rw[e]at l;replace l:=aY l;subst l;refine aL V.u ?_;rintro p rfl B;have C:=(F.u (bb:=[.y (z.drop (gR+1))])).r;refine bd (Q (gR+a) _ _ (cZ _ _) (eM N)) λW X=>⟨jz,aej.mpr (C.C (d:=(gR+a+1:j)) B (bO y) aa aa (gw s.u.D s.e (ba s.u.bC ?_)))⟩;refine Iq (gI:= λb=>bB (!b) _ _) W (C.C (d:=(am.u[gR+a]).2) B (bO y) aa aa (C.C (d:=1) B (bO y) aa aa ?_));rw[X];exact U _ _ ⟨a+1,_,by rw[show gR+1+(a+1)=gR+a+1+1 by exact m7 (.b (.b .a .r) (.b .e .r)) (.b (.b (.b .a .e) .r) .r)];exact x.2.symm,aa,aa⟩
  ·intro t w b;refine d0 b ?_;clear b;rintro a bA J rfl rfl;exact⟨jz,R _ _⟩
structure uw (b:n S)(c:aO)(g:bk)(e:j):Prop where
 bz:∀a,a∈g0 b->a∈du b
 d:(du b).Nodup
 an:L (du b)<64
 K:(fB b).Perm ((hH 1000 g).map (·.1))
 px:L (fB b)<64
 y:e<=L c
 aw:∀(i:j) k f,e<=i->c[i]?=O (k,f)->((i+1:j):m)∈gv b/\f=32
theorem aes (F:fm h k f c aC am ai d)(i:cI am)(l:gd am gR (du ai) (g0 ai) (gv ai) (fB ai)) (o:aC[aT (gR+4)]?=O aK) (a:uw ai am.u am.c z)
 (K:∀g aJ bc bA,a' (aw q A 9) dO (fY ak M (O (.e (z+1:j))) Y ag ah (O (.c aK)) aJ bc bA ax) (c++g) hu):
 a' (aw q A 9) (qz::r6::qA::qB::qC::dO) (fY ak M (O (.e (z+1:j))) Y ag ah (O (.c aK)) aJ bc bA ax) c hu:=by
 refine eO (F.af l o) λbf el e=>eO e λh7 iZ e=>bu e λcg b=>bx.mpr (aen b a.bz λaJ=>bq (bx.mpr (aee.mpr (gw b.D b.a (ba b.b (It a.an (bq (bx.mpr (aep jz (aem a.d) (by unfold kj;rw[(u3 (du ai) _).length_eq];exact a.an) (bq (bx.mpr ?_)))))))))));rw[bU];refine aeq F.u b.u a.K a.px λg=>bq (bx.mpr ?_);rw[bU];refine aer F.u i b.u a.y a.aw λp bA=>bq ?_;rw[bU];exact K _ _ _ _
structure bT where
 r:j
 a:bk
set_option genCtorIdx true in
inductive dv where
 |bw|a|b|c
open Internal.dv renaming casesOn->pV
noncomputable def dv.u (e:dv):x:=match e with|.bw=>.C|.a=>.e 10|.b=>.e 11|.c=>.e 12
noncomputable def pC (a:E)(i:j):x:=match a[i]?with|some v=>v|none=>.e 0
noncomputable def je (a:E)(i:j):Bool:=match pC a i with|.e b=>an (b=1)|_=>aN
noncomputable def bT.bF (a:bT)(f:m):bT:=⟨a.r,a.a++[f]⟩
def bT.W (a:bT)(f:m):bT:=⟨a.r+1,a.a++[f]⟩
noncomputable def eG (n:m):Int:=match an (n< -2147483648\/2147483647<n)with|true=>9|false=>7
noncomputable def kindOf (g:x)(k:m):Int:=match g with
 |.f _=>13
 |.C=>0
 |.r l=>(match l with|_::c::_=>(match c with|.e c=>c|_=>k)|_=>k)
 |_=>k
def iy (g:x)(k:m)(l:a3):Bool:=match l with
 |.c n=>(match g with
  |.e v=>an (v=n)
  |.r l=>(match l with|[_,c,v]=>(match c with|.e c=>(match v with|.e v=>an (c=eG n)&&an (v=n)|_=>aN)|_=>aN)|_=>aN)
  |_=>aN)
 |.gM a=>(match g with|.f y=>y==a|_=>aN)
 |.a=>aN
 |.d=>(match g with|.C=>af|_=>aN)
 |.b a _ _=>an (kindOf g k=a)
noncomputable def ux (l:a3):Q Int:=match l with|.b _ _ f=>f|_=>ab
def dR (b:E)(g:x)(k:m)(l:a3)(a:bT):bm×bT:=match iy g k l with
 |false=>(aN,a)
 |true=>match ux l with|none=>(af,a)|some f=>(je b a.r,a.W f)
def hc (b:E)(g:x)(k:m)(c:n a3)(a:bT):bm×bT:=c.rec (motive:= λd=>bT->bm×bT) (λa=>(aN,a)) (λl d f a=>match(dR b g k l a).1 with|true=>(af,(dR b g k l a).2)|false=>f (dR b g k l a).2) a
def iz (c:E)(g:x)(k:m)(d:aW)(a:bT):Q aW×bT:=d.an (c:=bT->Q aW×bT) (λa=>(ab,a)) (λa=>(ab,a)) (λl b e f a=>match(hc c g k l a).1 with|true=>(O b,(hc c g k l a).2)|false=>f (hc c g k l a).2) a
def od (x:aW)(d:aW):aW:=x.an (c:=aW->aW) id id (λl b a f d=>f (match l.any eW with|true=>b|false=>d)) d
def l9 (c:E)(g:x)(k:m)(a:aW)(d:bT):aW:=match(iz c g k a d).1 with|some b=>b|none=>od a .l
noncomputable def uy (e:dv):dv:=match e with|.a=>.bw|e=>e
inductive jB (a:bT):e8->bT->dv->Prop
 |a:jB a .a a .a
 |b:jB a .b a .b
 |c (f:m):jB a (.c f) (a.bF f) .c
class inductive eZ (d:E):aW->bT->bT->dv->Prop
 |l {c:bT}:eZ d .l c c .bw
 |C {a b:aW}{c i n:bT}{e:dv}(h:eZ d a c i .bw)(k:eZ d b i n e):eZ d (.C a b) c n e
 |d {a b:aW}{c i:bT}{e:dv}(h:eZ d a c i e)(p:e≠.bw):eZ d (.C a b) c i e
 |p {t:e8}{c i:bT}{e:dv}(h:jB c t i e):eZ d (.p t) c i e
 |o {k f:m}{c:bT}:eZ d (.o k f) c (c.bF f) .bw
 |v {f:m}{t:e8}{c i:bT}{e:dv}(o:je d c.r=af)(h:jB (c.W f) t i e):eZ d (.W f t) c i e
 |w {f:m}{t:e8}{c:bT}(o:je d c.r=aN):eZ d (.W f t) c (c.W f) .bw
 |i {f:m}{b:aW}{c:bT}(o:je d c.r=aN):eZ d (.h f b) c (c.W f) .bw
 |q {f:m}{b:aW}{c i n:bT}{j g:dv}(o:je d c.r=af)(h:eZ d b (c.W f) i j)(p:j=.bw\/j=.b)(k:eZ d (.h f b) i n g):eZ d (.h f b) c n g
 |u {f:m}{b:aW}{c i:bT}{j:dv}(o:je d c.r=af)(h:eZ d b (c.W f) i j)(p:j=.a\/j=.c):eZ d (.h f b) c i (uy j)
 |c {k f q:m}{g:x}{s:aW}{c i:bT}{e:dv}(h:eZ d (l9 d g k s (c.bF f)) (iz d g k s (c.bF f)).2 i e):eZ d (.c k f q g s) c i (uy e)
def Iu (h:fX k){i:j}(a:6<=i):je k i=false:=by delta je pC;rw[(KF (by rw[h.1];exact a))];rfl
variable{a0 c7 IZ:bT}{cT:dv}
def Bg:a0.r<=(dR k p d cH a0).2.r:=by
 delta dR;cases iy p d cH with
 |false=>exact br _
 |true=>cases ux cH with
  |none=>exact br _
  |some f=>exact fJ _
def xi:hc k p d (cH::c3) a0=match(dR k p d cH a0).1 with|true=>(af,(dR k p d cH a0).2)|false=>hc k p d c3 (dR k p d cH a0).2:=aa
def xj:iz k p d (.d c3 aB gb) a0=match(hc k p d c3 a0).1 with|true=>(O aB,(hc k p d c3 a0).2)|false=>iz k p d gb (hc k p d c3 a0).2:=aa
def Iv:∀{a:bT},a.r<=(hc k p d c3 a).2.r:=by
 induction c3 with
 |nil=>exact br _
 |cons l t b=>
  intro a;rw[xi];cases(dR k p d l a).1 with
  |true=>exact Bg
  |false=>exact aU Bg b
def aet:∀{a:bT},a.r<=(iz k p d aB a).2.r:=by
 induction aB with
 |d c b r _ e=>
  intro a;rw[xj];cases(hc k p d c a).1 with
  |true=>exact Iv
  |false=>exact aU Iv e
 |_=>intro a;exact br _
theorem eZ.ab (h:eZ k aB a0 c7 cT):a0.r<=c7.r:=by
 have e:∀{a0 c7:bT} {t cT},jB a0 t c7 cT->a0.r<=c7.r:= λh=>by cases h<;>exact br _
 induction h with
 |l=>exact br _
 |C _ _ a b=>exact aU a b
 |d _ _ a=>exact a
 |p h=>exact e h
 |o=>exact br _
 |v _ h=>exact aU (fJ _) (e h)
 |w=>exact fJ _
 |i=>exact fJ _
 |q _ _ _ _ a b=>exact aU (fJ _) (aU a b)
 |u _ _ _ a=>exact aU (fJ _) a
 | @c g f g g s a0 g cT _ a=>exact aU (aet (a:=a0.bF f)) a
def jB.r (d:bT)(t:e8):∃f e,jB d t f e:=by
 induction t using mg with
 |a=>exact⟨_,_,.a⟩
 |b=>exact⟨_,_,.b⟩
 |c f=>exact⟨_,_,.c f⟩
def uz (P:aW->Prop)(x:aW):Prop:=x.an fZ fZ λa b a i=>P b/\i
theorem aeu (h:uz kp aB):∀{a:bT},(iz k p d aB a).1=O gb->kp gb:=by
 induction aB with
 |d b c r _ f=>
  intro a e;rw[xj]at e;cases q:(hc k p d b a).1 with
  |true=>rw[q]at e;replace e:=aY e;subst e;exact h.1
  |false=>rw[q]at e;exact f h.2 e
 |_=>intro a e;injection e
def aev (h:uz kp aB):∀{d:aW},kp d->kp (od aB d):=by
 induction aB with
 |d b c r _ e=>
  intro d a;refine e h.2 ?_;cases b.any eW with
  |true=>exact h.1
  |false=>exact a
 |_=>intro d a;exact a
def xk (h:uz kp aB)(a:kp .l):kp (l9 k p d aB a0):=by
 delta l9;cases e:(iz k p d aB a0).1 with
 |some b=>exact aeu h e
 |none=>exact aev h a
theorem eZ.r (L:fX k){M:b2}{N:aO}(x:aW):∀{n:bm},x.K M N n->(x.al->∀m,∃B e,eZ k x m B e)/\uz (λb=>∀m,∃B e,eZ k b m B e) x:=by
 induction x with
 |l=>intro n z;exact⟨λz m=>⟨_,_,.l⟩,bY⟩
 |C a b g H=>
  intro n h;refine⟨λf m=>(eO ((g h.1).1 f.1 m) λD G y=>?_),bY⟩;induction G using pV with
  |bw=>exact eO ((H h.2).1 f.2 D) λJ K F=>⟨_,_,.C y F⟩
  |_=>exact⟨_,_,.d y (λe=>by injection e)⟩
 |p t=>intro n z;exact⟨λz m=>eO (jB.r m t) λB e h=>⟨_,_,.p h⟩,bY⟩
 |o a f=>intro n z;exact⟨λz m=>⟨_,_,.o⟩,bY⟩
 |W f t=>
  intro n z;refine⟨λz m=>?_,bY⟩;cases A:je k m.r with
  |true=>exact eO (jB.r (m.W f) t) λB e h=>⟨_,_,.v A h⟩
  |false=>exact⟨_,_,.w A⟩
 |h f b I=>
  intro n h;refine⟨λz=>?_,bY⟩;have P:∀(a:j)(m:bT),6<=m.r+a->∃B e,eZ k (.h f b) m B e:=by
   intro a;induction a with
   |zero=>intro m g;exact⟨_,_,.i (Iu L g)⟩
   |succ a r=>
    intro m g;cases A:je k m.r with
    |false=>exact⟨_,_,.i A⟩
    |true=>
     refine eO (((I (n:=af) h.1).1 h.2) (m.W f)) λD G y=>?_;have s:m.r+1<=D.r:=y.ab;induction G using pV with
     |bw=>exact eO (r D (fE (.le (.y 6) (.b .a .e)) (.le (.y 6) (.b .l (.b .e .r))) (.le (.b .l .r) .a) g s)) λJ K F=>⟨_,_,.q A y (.inl aa) F⟩
     |b=>exact eO (r D (fE (.le (.y 6) (.b .a .e)) (.le (.y 6) (.b .l (.b .e .r))) (.le (.b .l .r) .a) g s)) λJ K F=>⟨_,_,.q A y (.inr aa) F⟩
     |a=>exact⟨_,_,.u A y (.inl aa)⟩
     |c=>exact⟨_,_,.u A y (.inr aa)⟩
  exactλm=>P 6 m (ev _ _)
 |c a f r g s I=>intro n h;exact⟨λz m=>(eO (xk (k:=k) (p:=g) (d:=a) (a0:=m.bF f) (I h.2.2).2 (λm=>⟨_,_,.l⟩) (iz k g a s (m.bF f)).2) λD G y=>⟨_,_,.c y⟩),bY⟩
 |d r b r H g=>intro n h;exact⟨λh=>h.elim,(H h.1.1).1 h.1.2,(g h.2).2⟩
structure bQ where
 c:bT
 d:b2
noncomputable def bQ.bF (a:bQ)(f:m):bQ:=⟨a.c.bF f,a.d⟩
def bQ.W (a:bQ)(f:m):bQ:=⟨a.c.W f,a.d⟩
def bQ.X (a:bQ)(l:m)(v:x):bQ:=⟨a.c,Internal.bF a.d l v⟩
def qX (e:j)(a:j)(t:m):n (j×x):=[(85,.c 18),(83,.c 3),(3,.e a),(79,.c (aT e)),(71,.c (aT (e+1))),(84,.e t)]
structure cK (s:aq)(e:j)(f:bQ)(t:m):Prop where
 d:s.l[e]?=O (.y (f.c.a.map x.e))
 c:s.l[e+1]?=O (.h f.d)
 a:s.l[e+2]?=O (.K (qX e f.c.r t))
 b:L f.c.a<=100000
 iO:f.c.r<=100000
structure eg (e:j)(s a:aq):Prop where
 c:a={s with l:=a.l}
 u:∀i o,i<e\/e+3<=i->s.l[i]?=O o->a.l[i]?=O o
def eg.D:eg f h h:=⟨aa,λa a a b=>b⟩
def eg.y (a:eg f h am)(k:eg f am cN):eg f h cN:=⟨by rw[k.c,a.c],λi o b q=>k.u i o b (a.u i o b q)⟩
theorem eg.X (b:f<=z)(c:z<f+3):eg f h (h.X z aZ):=⟨aa,λe e d q=>(lq (d.elim (λa=>fE (.b (.l .a .e)) (.lt .e .l) (.le .l .a) a b) λa=>g6 (.b (.l .a .e)) (.le (.b .l .L) .e) (.lt .a (.b .l .L)) [-1,1,1] a c)).trans q⟩
theorem eg.C:eg f h (h.C c):=⟨aa,λa a a b=>ix b⟩
variable{az gf qZ:bQ}{jf Bj:x×bQ}{ny:e8}{q1:Q m×bT}{iS jF:n (ac×ac)}{mM:x->bm}
theorem cK.i (a:cK h f az d){b:m}(c:L az.c.a<100000):cK (h.X f (.y ((az.c.a++[b]).map x.e))) f (az.bF b) d:=
 ⟨pB a.d,hv (k7 (.b (.l .a (.b .a .r))) [-1]) a.c,hv (k7 (.b (.l .a (.b .a .W))) [-1]) a.a,by show L (az.c.a++[b])<=_;rw[a6];exact c,a.iO⟩
theorem cK.r (a:cK h f az d){l:m}{v:x}:cK (h.X (f+1) (.h (Internal.bF az.d l v))) f (az.X l v) d:=
 ⟨hv (em (.b (.l (.b .a .r) .a))) a.d,pB a.c,hv (k7 (.b (.l (.b .a .r) (.b .a .W))) [-1]) a.a,a.b,a.iO⟩
theorem cK.C (a:cK h f az d):cK (h.C c) f az d:=⟨ix a.d,ix a.c,ix a.a,a.b,a.iO⟩
noncomputable abbrev oe (z:j)(f:m):aS:=[O (.c z),O (.e f)]
def aew:bM bK (al q) A 1303 [.c z,.e B] c w=a' (aw q A 9) [zV,zW,wC] (oe z B) c (ch w):=()
def aex:aw q A 9 zV (oe z B) c G=eP (.c z) 79 c λp=>l8 q A p (.e B) c λc=>G .next (oe z B) c:=()
def aey:aw q A 9 zW (oe z B) c G=eP (.c z) 3 c λx=>rL .Add x (.e 1) c λy c=>rI (.c z) 3 y c λc=>G .next (oe z B) c:=()
theorem aez:aw q A 9 wC (oe z B) c G=eP (.c z) 3 c λi=>eP (.c z) 83 c λa=>yC .W [a] c λy c=>mo (al q) .LtE i y c λb=>bB b (eP (.c z) 83 c λa=>eP (.c z) 3 c λi=>ng .Sub i (.e 1) c λj c=>ed (al q) a j c λv=>G (.c v) (oe z B) c) (G (.c (.e 0)) (oe z B) c):=()
theorem Bh (S:b4 q V)(i:cK h f az o)(l:L az.c.a<100000)(n:az.c.r<100000)(a:∀j,cK j f (az.W B) o->eg f h j->w (pC h.e az.c.r) (D (j.b k d I))):V 1 1303 [.c (aT (f+2)),.e B] (D (h.b k d I)) w:=by
 have b:=i.i (b:=B) l;have c:cK ((h.X f (.y ((az.c.a++[B]).map x.e))).X (f+2) (.K (qX f (az.c.r+1) o))) f (az.W B) o:=⟨hv (sV (pS ⋯)) b.d,hv (em (.b (.l (.b .a .W) (.b .a .r)))) b.c,pB b.a,b.b,n⟩;refine S.r (aew.mpr (bx.mpr (aex.mpr (gw (p:=.c (aT f)) (bO i.a) aa (nx i.d l (bq (bx.mpr (aey.mpr (gw (p:=.e az.c.r) (bO b.a) aa (ba (bO b.a) (fh (bs:=g8 3) aa (fM (f:=7) ⋯ ((bx.mpr (aez.mpr ((gw (p:=.e ((az.c.r:m)+1)) (bO c.a) aa (gw (p:=.c 3) (bO c.a) aa ?_)))):a' (aw q (V 0) 9) [wC] (oe (aT (f+2)) B) (D (((h.X f (.y ((az.c.a++[B]).map x.e))).X (f+2) (.K (qX f (az.c.r+1) o))).b k d I)) (ch w)))))))))))))));have a:=a _ c ((eg.X (br _) (pS ⋯)).y (.X (em (.le .a (.b .a .W))) (hi _)));refine fj (λe=>?_) λe=>?_
 ·refine gw (p:=.c 3) (bO c.a) aa (gw (p:=.e ((az.c.r:m)+1)) (bO c.a) aa ((?_:a7 (dD h.e ((az.c.r:m)+1-1)) _)));rw[Int.add_sub_cancel];have g:=eM (by have:=dT e;exact ck (.lt .a .e) (.a (.b (.d .a) .r) (.d .e)) (dT e:):az.c.r<h.e.length);refine ba (fL:=dD h.e (az.c.r:m)) g ?_;unfold pC at a;rw[g]at a;exact a
 ·unfold pC at a;rw[KF (by have:=iF e;exact ck (.le .a .e) (.b (.a (.b (.d .e) .r) (.d .a))) (iF e:):h.e.length<=az.c.r)]at a;exact a
def aeA:bM bK (al q) A 1352 [.c f,.r [.e 1,.e d,p]] c w=w p c:=()
def aeB:bM bK (al q) A 1352 [.c f,.r [.e 2,.e d,.e o]] c w=eP (.c f) 71 c λa=>ed (al q) a (.e o) c λv=>w v c:=()
def aeC:bM bK (al q) A 1352 [.c f,cW d J] c w=eP (.c f) 79 c λp=>l8 q A p (.e J) c λc=>eP (.c f) 85 c λa=>eP a 75 c λg=>a7 (hD (al q) g .b c) λm=>jq (al q) A m g [.e J,.e 0] c w:=()
def aeD:bM bK (al q) A 1352 [.c f,.r [.e 14,.e d,cx,aM,cC,.e 0]] c w=A 1352 [.c f,aM] c λp c=>A 1352 [.c f,cC] c λy c=>ng .Sub p y c w:=()
theorem aeE:bM bK (al q) A 1352 [.c f,.r [.e 22,.e d,.r [.e 2,kw,.e o],U]] c w=A 1352 [.c f,U] c λp c=>eP (.c f) 71 c λa=>mp a (.e o) p c λc=>eP (.c f) 71 c λa=>ed (al q) a (.e o) c λv=>w v c:=()
def aeF:bM bK (al q) A 1352 [.c f,.r [.e 19,.e d,U,.e 1,.e 0]] c w=A 1352 [.c f,U] c λp c=>w p c:=()
def aeG:bM bK (al q) A 1352 [.c f,.r [.e 19,.e d,.r (p::.e aF::k),.e 4,.e 0]] c w=A 1352 [.c f,.r (p::.e aF::k)] c λp c=>w (.r [.f (bG 94),.e aF,p]) c:=()
def aeH:bM bK (al q) A 1352 [.c f,.r [.e 19,.e d,U,.e 5,.e 0]] c w=A 1352 [.c f,U] c λp c=>ed (al q) p (.e 2) c λy=>w y c:=()
def aeI:bM bK (al q) A 1352 [.c f,.r [.e 21,.e d,U]] c w=A 1352 [.c f,U] c λp c=>a7 (p6 p) λcC=>bB cC (w p c) (w .C c):=()
def aeJ:bM bK (al q) A 1352 [.c f,.r [.e 8,.e d,U,d2,.r [],.e 0]] c w=A 1352 [.c f,U] c λp c=>bB (jP p) (w (.e 0) c) (w p c):=()
def Iw:bM bK (al q) A 1345 [.c f,.r [.e 15,.e 1,aM,cC]] c w=A 1345 [.c f,aM] c λp c=>dg c p (.e 1) λd2=>bB d2 (A 1345 [.c f,cC] c w) (w (.e 0) c):=()
def aeK:bM bK (al q) A 1345 [.c f,.r [.e 13,.e 1,cx,aM,.e 0]] c w=A 1345 [.c f,aM] c λp c=>ng .Sub (.e 1) p c w:=()
def aeL:bM bK (al q) A 1345 [.c f,cW d J] c w=A 1303 [.c f,.e J] c w:=()
def aeM:bM bK (al q) A 1345 [.c f,.r [.e 31,.e 1,.r [aM],U]] c w=A 1352 [.c f,aM] c λa c=>A 1345 [.c f,U] c w:=()
def aeN:bM bK (al q) A 1345 [.c f,.r [.e 8,.e 1,U,.r [.e d,.e 66,.r []],.r [],.e 0]] c w=A 1352 [.c f,U] c λp c=>bB (jP p) (w (.e 0) c) (w (.e 1) c):=()
theorem aeO:bM bK (al q) A 1345 [.c f,.r [.e 8,.e 1,.C,.r [.e 13,.e 13,.r []],.r [aM,cC],.e 0]] c w=A 1352 [.c f,aM] c λp c=>A 1352 [.c f,cC] c λy c=>dg c p y λd2=>bB d2 (w (.e 1) c) (w (.e 0) c):=()
theorem Bi:bM bK (al q) A 1345 [.c f,.r [.e 20,.e 1,U,.e d,.e 0]] c w=A 1352 [.c f,U] c λp c=>a7 (p6 p) λcC=>bB cC (bB (an (13=d)) (w (.e 1) c) (w (.e 0) c)) (bB (jP p) (bB (an (0=d)) (w (.e 1) c) (w (.e 0) c)) (ed (al q) p (.e 1) c λy=>dg c y (.e d) λd2=>bB d2 (w (.e 1) c) (w (.e 0) c))):=()
def aeP:bM bK (al q) A 1345 [.c f,.r [.e 1,.e d,p]] c w=w p c:=()
theorem aeQ:bM bK (al q) A 1345 [.c f,.r [.e 14,.e d,.f (bG 92),aM,cC,.e 0]] c w=A 1352 [.c f,aM] c λp c=>A 1352 [.c f,cC] c λy c=>dg c p y λd2=>dg c (.d d2) (.d af) λd2=>bB d2 (w (.e 1) c) (w (.e 0) c):=()
theorem aeR:bM bK (al q) A 1345 [.c f,.r [.e 14,.e d,.f (bG 89),aM,cC,.e 0]] c w=A 1352 [.c f,aM] c λp c=>A 1352 [.c f,cC] c λy c=>dg c p y λd2=>dg c (.d d2) (.d aN) λd2=>bB d2 (w (.e 1) c) (w (.e 0) c):=()
theorem aeS:bM bK (al q) A 1345 [.c f,.r [.e 14,.e d,.f (bG 91),aM,cC,.e 0]] c w=A 1352 [.c f,aM] c λp c=>A 1352 [.c f,cC] c λy c=>dg c p y λd2=>bB (!d2) (cR p λi=>cR y λj=>dg c (.d (an (i<j))) (.d af) λd2=>bB d2 (w (.e 1) c) (w (.e 0) c)) (w (.e 0) c):=()
theorem aeT:bM bK (al q) A 1345 [.c f,.r [.e 14,.e d,.f (bG 93),aM,cC,.e 0]] c w=A 1352 [.c f,aM] c λp c=>A 1352 [.c f,cC] c λy c=>dg c p y λd2=>bB (!d2) (cR p λi=>cR y λj=>dg c (.d (an (i<j))) (.d aN) λd2=>bB d2 (w (.e 1) c) (w (.e 0) c)) (w (.e 0) c):=()
def aE.cB (e:aE):Nat:=e.aN (λa a=>0) 0 1 id (·+1) (·+·)
structure fC (a:bQ)(k:j):Prop where
 C:L a.c.a+k<=100000
 b:a.c.r+k<=100000
 d:L a.d+k<=100000
theorem Ix:L (Internal.bF aI d p)<=L aI+1:=by
 induction aI with
 |nil=>exact br _
 |cons a aI b=>
  obtain⟨k,c⟩:=a;refine(?_:L (if k=d then(k,p)::aI else(k,c)::Internal.bF aI d p)<=_);by_cases h:k=d
  ·rw[cP h];exact fJ _
  ·rw[ce h];exact gy b
def fC.bz (h:fC az z)(a:f<=z):fC az f:=⟨aU (iE a _) h.C,aU (iE a _) h.b,aU (iE a _) h.d⟩
theorem fC.bF (h:fC az (1+f)):fC (az.bF d) f:=⟨by show L (az.c.a++[d])+f<=_;rw[a6];have:=h.C;show L az.c.a+1+f<=_;exact ck (.le (.b (.b .a .r) .e) (.y 100000)) (.le (.b .a (.b .r .e)) (.y 100000)) this,(h.bz (ev _ _)).b,(h.bz (ev _ _)).d⟩
theorem fC.W (h:fC az (1+f)):fC (az.W d) f:=⟨by show L (az.c.a++[d])+f<=_;rw[a6];have:=h.C;show L az.c.a+1+f<=_;exact ck (.le (.b (.b .a .r) .e) (.y 100000)) (.le (.b .a (.b .r .e)) (.y 100000)) this,by show az.c.r+1+f<=_;have:=h.b;exact ck (.le (.b (.b .a .r) .e) (.y 100000)) (.le (.b .a (.b .r .e)) (.y 100000)) this,(h.bz (ev _ _)).d⟩
theorem fC.X (h:fC az (1+f)):fC (az.X d p) f:=⟨(h.bz (ev _ _)).C,(h.bz (ev _ _)).b,by show L (Internal.bF az.d d p)+f<=_;exact fE (.le (.b .a .e) (.y 100000)) (.le .a (.b .l .r)) (.le (.b .l (.b .r .e)) (.y 100000)) Ix h.d⟩
noncomputable def Iy (p q:x×bQ):Q (x×bQ):=match p.1 with|.e i=>(match q.1 with|.e j=>O (.e (i-j),q.2)|_=>ab)|_=>ab
def pD (k c:m)(p:x×bQ):Q (x×bQ):=match an (c=1)with
 |true=>O p
 |false=>match an (c=4)with
  |true=>O (.r [.f (bG 94),.e k,p.1],p.2)
  |false=>match an (c=5)with|true=>(match p.1 with|.r l=>l[2]?.map λy=>(y,p.2)|_=>ab)|false=>ab
def pE (p:x×bQ):Q (x×bQ):=(p6 p.1).map λb=>(match b with|true=>p.1|false=>.C,p.2)
def dw (d:b2)(e:aE):bQ->Q (x×bQ):=e.rec (λa c b=>O (c,b)) (λa l b=>(bH b.d l).map λv=>(v,b)) (λa f b=>O ((bH d f).getD (.e 0),b.bF f)) (λa e c f b=>(f b).bind λp=>pD e.i c p) (λa a a a f g b=>(f b).bind λp=>(g p.2).bind λq=>Iy p q)
 (λa a a a a=>ab) (λa a a=>ab) (λa a a a=>ab) (λa a f b=>(f b).bind pE) (λa l a f b=>(f b).map λp=>(p.1,p.2.X l p.1)) (λa a a a a=>ab) (λa a a a=>ab)
 (λa a a f b=>(f b).map λp=>(match jP p.1 with|true=>.e 0|false=>p.1,p.2)) λa a a a a=>ab
theorem Iz (h:Iy jf Bj=O (p,az)):∃i j,jf.1=.e i/\Bj=(.e j,az)/\p=.e (i-j):=by
 obtain⟨a,b⟩:=jf;obtain⟨y,b⟩:=Bj;induction a using eh with
 |e i=>induction y using eh with
  |e j=>cases h;exact⟨i,j,aa,aa,aa⟩
  |_=>injection h
 |_=>injection h
theorem IA (h:pD d o jf=O (p,az)):jf.2=az:=by
 delta pD at h;revert h;cases an (o=1)with
 |true=>intro h;replace h:=aY h;subst h;rfl
 |false=>cases an (o=4)with
  |true=>intro h;cases h;rfl
  |false=>cases an (o=5)with
   |false=>intro h;injection h
   |true=>
    obtain⟨a,b⟩:=jf;induction a using eh with
    |r l=>
     intro h;have h:l[2]?.map (λy=>(y,b))=O (p,az):=h;cases e:l[2]?with
     |none=>rw[e]at h;injection h
     |some y=>rw[e]at h;cases h;rfl
    |_=>intro h;injection h
theorem IB (h:pE jf=O (p,az)):jf.2=az/\∃b,p6 jf.1=O b/\p=(match b with|true=>jf.1|false=>.C):=by
 delta pE at h;cases e:p6 jf.1 with
 |none=>rw[e]at h;injection h
 |some b=>rw[e]at h;cases h;exact⟨aa,b,aa,aa⟩
theorem jC:∀{d e:bQ}{v:x}{k:j},dw aI bP d=O (v,e)->fC d (bP.cB+k)->fC e k:=by
 induction bP with
 |p _ a=>intro d e v k h r;cases h;exact(m1 k)▸r
 |h _ l=>intro d e v k h r;refine aL (h3.mp h) λw g bP=>?_;cases bP;exact(m1 k)▸r
 |K _ f=>intro d e v k h r;cases h;exact r.bF
 |q _ _ a b c m=>intro d e v k h r;refine aL (jG.mp h) λp f h=>aL (jG.mp h) λq n h=>?_;refine d0 (Iz h) ?_;rintro i a g rfl g;exact m n (c f (by rw[<-ka];exact r))
 |d _ l bP a=>intro d e v k h r;refine aL (h3.mp h) λp f h=>?_;cases h;exact(a f (by rw[<-ka];exact r)).X
 |conv _ bP c a=>intro d e v k h r;exact aL (jG.mp h) λp f h=>IA h▸a f r
 |v _ bP a=>intro d e v k h r;exact aL (jG.mp h) λp f h=>(IB h).1▸a f r
 |G _ _ bP a=>intro d e v k h r;refine aL (h3.mp h) λp f h=>?_;cases h;exact a f r
 |_=>intro d e v k h;injection h
theorem eg.W (a:eg f h am):am.W=h.W/\am.e=h.e:=by rw[a.c];exact⟨aa,aa⟩
theorem uA:bH (Internal.bF aI d p) d=O p:=by
 induction aI with
 |nil=>show(if d=d then O p else _)=_;rw[cP aa]
 |cons b aI c=>
  obtain⟨k,a⟩:=b;refine(?_:bH (if k=d then(k,p)::aI else(k,a)::Internal.bF aI d p) d=_);by_cases h:k=d
  ·rw[cP h];show(if k=d then O p else _)=_;rw[cP h]
  ·rw[ce h];show(if k=d then O a else bH (Internal.bF aI d p) d)=_;rw[ce h];exact c
def uB (h:f+1<=z):∃m,z=m+1/\f<=m:=(Nat.le.dest h).elim λk e=>⟨f+k,by rw[<-e,KR],cZ _ _⟩
def aeU (i:j->aQ)(d f:E)(g:m)(a:j)(t:m)(e:aE):Prop:=∀{b h:bQ}{v:x}{s:aq}{n:j}{w:bg},dw s.W e b=O (v,h)->cK s a b t->e.y<=n->fC b e.cB->(∀c,cK c a h t->eg a s c->w v (D (c.b d g f)))->i (n+1) 1352 [.c (aT (a+2)),e.u] (D (s.b d g f)) w
theorem aeV (S:b4 q V){e:aE}:aeU V k I d f o e:=by
 induction e with
 |p K B=>intro E F v s n w h g Q Q m;cases h;exact S.c4 (ev 1 n) (S.r (aeA.mpr (m s g .D)))
 |h K l=>intro E F v s n w h g Q Q m;refine aL (h3.mp h) λT t N=>?_;cases N;exact S.c4 (ev 1 n) (S.r (aeB.mpr (gw (p:=.c (aT (f+1))) (bO g.a) aa (ba (bO g.c) (ba t (m s g .D))))))
 |K K a=>intro E F v s n w h g Q r m;cases h;have b:L E.c.a<100000:=r.C;have c:=g.i (b:=a) b;exact S.c4 (ev 1 n) (S.r (aeC.mpr (gw (p:=.c (aT f)) (bO g.a) aa (nx g.d b (gw (p:=.c 18) (bO c.a) aa (gw (p:=.c 17) (f:=18) aa aa (ba (fL:=hD (al q) (.c 17) .b (D ((s.X f (.y ((E.c.a++[a]).map x.e))).b k d I))) aa (m _ c (.X (br _) (pS ⋯))))))))))
 |q K a a b y H=>intro E F v s n w h g G r m;refine aL (uB G) λP u z=>?_;rw[u];clear u;refine aL (jG.mp h) λp t h=>aL (jG.mp h) λa N h=>?_;refine d0 (Iz h) ?_;rintro i j c rfl rfl;obtain⟨B,M⟩:=p;have c:B=.e i:=c;subst c;refine S.r (aeD.mpr (y t g (aU (kF _ _) z) (r.bz (cZ _ _)) λJ A C=>H (s:=J) (by rw[C.W.1];exact N) A (aU (mh _ _) z) (jC t r) λR U W=>?_));exact m R U (C.y W)
 |d K l e a=>intro E F v s n w h g G r m;refine aL (uB G) λP u z=>?_;rw[u];clear u;refine aL (h3.mp h) λp t h=>?_;cases h;obtain⟨B,M⟩:=p;refine S.r (aeE.mpr (a t g (jL z) (r.bz (fJ _)) λJ A C=>?_));have c:=A.r (l:=l) (v:=B);exact gw (p:=.c (aT (f+1))) (bO A.a) aa (ba (bO A.c) (fM (aU ((jC (k:=1) t r).d) ⋯) (gw (p:=.c (aT (f+1))) (bO c.a) aa (ba (bO c.c) (ba uA (m _ c (C.y (.X (em (.le .a (.b .a .r))) (em (.lt (.b .a .r) (.b .a .L)))))))))))
 |conv K e c a=>
  intro E F v s n w h g G r m;refine aL (uB G) λP u z=>?_;rw[u];clear u;refine aL (jG.mp h) λp t h=>?_;obtain⟨B,M⟩:=p;have N:=IA h;have N:M=F:=N;subst N;refine S.r ?_;delta pD at h;by_cases j:c=1
  ·subst j;replace h:=aY h;injection h with h;subst h
   exact aeF.mpr (a t g z r m)
  rw[cL j]at h;by_cases R:c=4
  ·subst R;replace h:=aY h;injection h with h;subst h
   have a:=a (w:= λB H=>w (.r [.f (bG 94),.e e.i,B]) H) t g z r m;refine eO e.C λy r i=>(?_:bM bK (al q) (V (P+1)) 1352 [.c (aT (f+2)),.r [.e 19,.e K,e.u,.e 4,.e 0]] _ _);rw[i]at a⊢;exact aeG.mpr a
  rw[cL R]at h;by_cases H:c=5
  ·subst H;induction B using eh with
   |r l=>
    refine aL (h3.mp (show l[2]?.map (λy=>(y,M))=O (v,M)from h)) λT y i=>?_;injection i with i;subst i
    exact aeH.mpr (a t g z r λJ A C=>ba (fL:=dD l 2) y (m J A C))
   |_=>injection h
  ·rw[cL H]at h;injection h
 |v K e a=>
  intro E F v s n w h g G r m;refine aL (uB G) λP u z=>?_;rw[u];clear u;refine aL (jG.mp h) λp t h=>?_;obtain⟨B,M⟩:=p;obtain⟨c,b,i,rfl⟩:=IB h;have c:M=F:=c;subst c;refine S.r (aeI.mpr (a t g z r λJ A C=>ba i ?_));induction b using fD with
  |true=>exact m J A C
  |false=>exact m J A C
 |G c K e a=>intro E F v s n w h g G r m;refine aL (uB G) λP u z=>?_;rw[u];clear u;refine aL (h3.mp h) λp t h=>?_;obtain⟨B,M⟩:=p;cases h;refine S.r (aeJ.mpr (a t g z r λJ A C=>?_));have m:=m J A C;revert m;cases jP B<;>exact id
 |_=>intro E F v s n w h;injection h
theorem pF (S:b4 q V){e:aE}:∀{a c:bQ}{v:x}{s:aq}{n:j}{w:bg},dw s.W e a=O (v,c)->cK s f a o->e.y<=n->fC a e.cB->(∀b,cK b f c o->eg f s b->w v (D (b.b k d I)))->V (n+1) 1352 [.c (aT (f+2)),e.u] (D (s.b k d I)) w:=aeV S
def qY (a:E)(i:j):Int:=match pC a i with|.e b=>b|_=>0
theorem sp (h:fX k){i:j}:pC k i=.e (qY k i)/\(je k i=af/\qY k i=1\/je k i=aN/\qY k i=0):=by
 delta je qY pC;cases e:k[i]?with
 |none=>exact⟨aa,.inr ⟨aa,aa⟩⟩
 |some v=>rcases h.2 v (jK e)with rfl|rfl<;>first|exact⟨aa,.inr ⟨aa,aa⟩⟩|exact⟨aa,.inl ⟨aa,aa⟩⟩
def pG (h:md a9=af):rF (.f a9)=O (.str a9):=by refine(?_:(if md a9 then O (PyData.str a9)else ab)=_);rw[cP h]
inductive g1:x->x->bm->Prop
 |kO:g1 .C .C af
 |f (i:m):g1 (.e i) .C aN
 |ns {s:aH}(h:md s=af):g1 (.f s) .C aN
 |d {s:aH}(i j:m)(h:md s=af):g1 (.r [.f s,.e i,.e j]) .C aN
 |a (i j:m):g1 (.e i) (.e j) (an (i=j))
 |c {s u:aH}(h:md s=af)(a:md u=af):g1 (.f s) (.f u) (s==u)
 |b {u:aH}(h:md u=af):g1 .C (.f u) aN
 |e {s u:aH}(i j:m)(h:md s=af)(a:md u=af):g1 (.r [.f s,.e i,.e j]) (.f u) aN
theorem g1.C (h:g1 p U bs)(k:gI bs):dg c p U gI:=by
 induction h using g1.casesOn with
 |kO=>exact k
 |f i=>exact k
 |ns h=>exact ba (pG h) k
 | @d s i j h=>refine ba (bW:=uU [.str s,.int i,.int j]) ((?_:(h9 (i4 c 5) [.f s,.e i,.e j]).map uU=_)) k;rw[qU (show i4 c 5 (.f s)=O (.str s)from pG h) aa];rfl
 | @e s u i j h g=>refine ba (bW:=uU [.str s,.int i,.int j]) ((?_:(h9 (i4 c 5) [.f s,.e i,.e j]).map uU=_)) (ba (pG g) k);rw[qU (show i4 c 5 (.f s)=O (.str s)from pG h) aa];rfl
 |a i j=>exact k
 |c h g=>exact ba (pG h) (ba (pG g) k)
 |b h=>exact ba (fL:=i4 c 6 .C) aa (ba (pG h) k)
noncomputable def iA (b:bm):Int:=match b with|true=>1|false=>0
class inductive eD (n:E)(l:b2):aE->bQ->m->bQ->Prop
 |p {a b:aE}{d g o:bQ}{v:m}(h:eD n l a d 1 g)(k:eD n l b g v o):eD n l (.t a b) d v o
 |d {a b:aE}{d g:bQ}(h:eD n l a d 0 g):eD n l (.t a b) d 0 g
 |z {a:aE}{d g:bQ}{v:m}(h:eD n l a d v g):eD n l (.z a) d (1-v) g
 |K {k f:m}{d:bQ}:eD n l (.K k f) d (qY n d.c.r) (d.W f)
 |J {d:bQ}:eD n l (.p 1 (.e 1)) d 1 d
 |w {a e:aE}{d g o:bQ}{p:x}{v:m}(h:dw l a d=O (p,g))(k:eD n l e g v o):eD n l (.w a e) d v o
 |A {k:m}{e:aE}{d g:bQ}{p:x}(h:dw l e d=O (p,g)):eD n l (.A k e) d (iA (!jP p)) g
 |B {a b:aE}{d g o:bQ}{p y:x}{t:bm}(h:dw l a d=O (p,g))(s:dw l b g=O (y,o))(q:g1 p y t):eD n l (.B a b) d (iA t) o
 |G {k:m}{e:aE}{d g:bQ}{p:aH}(h:dw l e d=O (.f p,g)):eD n l (.is e k) d (iA (an (13=k))) g
 |al {k:m}{e:aE}{d g:bQ}(h:dw l e d=O (.C,g)):eD n l (.is e k) d (iA (an (0=k))) g
 |u {k c:m}{e:aE}{d g:bQ}{p:x}{r:E}(h:dw l e d=O (.r (p::.e c::r),g)):eD n l (.is e k) d (iA (an (c=k))) g
 |l {k:m}{a b:aE}{d g o:bQ}{p y:x}{t:bm}(h:dw l a d=O (p,g))(s:dw l b g=O (y,o))(q:g1 p y t):eD n l (.q k 92 a b) d (iA t) o
 |o {k:m}{a b:aE}{d g o:bQ}{p y:x}{t:bm}(h:dw l a d=O (p,g))(s:dw l b g=O (y,o))(q:g1 p y t):eD n l (.q k 89 a b) d (iA (!t)) o
 |lt {k i j:m}{a b:aE}{d g o:bQ}(h:dw l a d=O (.e i,g))(s:dw l b g=O (.e j,o)):eD n l (.q k 91 a b) d (iA (an (i<j))) o
 |I {k i j:m}{a b:aE}{d g o:bQ}(h:dw l a d=O (.e i,g))(s:dw l b g=O (.e j,o)):eD n l (.q k 93 a b) d (iA (an (j<i))) o
theorem eD.s (h:eD k aI bP az d gf):∀{c:j},fC az (bP.cB+c)->fC gf c:=by
 have g:∀{a b:aE}{az i n:bQ}{q y:x}{c:j},dw aI a az=O (q,i)->dw aI b i=O (y,n)->fC az (a.cB+b.cB+c)->fC n c:= λh e r=>jC e (jC h (by rw[<-ka];exact r));induction h with
 |p _ _ f s=>intro c r;exact s (f (by rw[<-ka];exact r))
 | @d a b _ _ _ f=>intro c r;exact f (r.bz (by show a.cB+c<=a.cB+b.cB+c;exact jk [_,_,_] [] (.le (.b .a .e) (.b (.b .a .l) .e))))
 |z _ f=>intro c r;exact f r
 |K=>intro c r;exact r.W
 |J=>intro c r;exact(m1 c)▸r
 |w h _ f=>intro c r;exact f (jC h (by rw[<-ka];exact r))
 |A h=>intro c r;exact jC h r
 |B h e _=>intro c r;exact g h e r
 |G h=>intro c r;exact jC h r
 |al h=>intro c r;exact jC h r
 |u h=>intro c r;exact jC h r
 |l h e _=>intro c r;exact g h e r
 |o h e _=>intro c r;exact g h e r
 |lt h e=>intro c r;exact g h e r
 |I h e=>intro c r;exact g h e r
def xl (q:w (.e (iA bs)) c):bB bs (w (.e 1) c) (w (.e 0) c):=by induction bs using fD<;>exact q
theorem IC (q:w (.e (iA (match bs with|true=>an (d<B)|false=>an (B<d)))) c):bB (!an (d=B)) (dg c (.d (an (d<B))) (.d bs) λo=>bB o (w (.e 1) c) (w (.e 0) c)) (w (.e 0) c):=by
 refine gQ (Int.lt_trichotomy d B) (λh=>?_) λh=>gQ h (λh=>?_) λh=>?_
 ·rw[dz h,cL (show¬d=B by exact go [] [_,_] (.b (.Eq .a .e)) (.Lt .a .e) [-1,1] h)];rw[dz h,cL (show¬B<d by exact lz.mpr (mc h))]at q;induction bs using fD<;>exact q
 ·rw[dz h];rw[cL (show¬d<B by exact go [] [_,_] (.b (.Lt .a .e)) (.Eq .a .e) [1,-1] h),cL (show¬B<d by exact k9 (.b (.Lt .a .e)) (.Eq .e .a) h)]at q;induction bs using fD<;>exact q
 ·rw[cL (show¬d<B by exact lz.mpr (mc h)),cL (show¬d=B by exact u6 h)];rw[cL (show¬d<B by exact lz.mpr (mc h)),dz h]at q;induction bs using fD<;>exact q
theorem eD.C (S:b4 q V){ajr:E}{Z:b2}(ajv:fX ajr){e:aE}{N aju:bQ}{v:m}(h:eD ajr Z e N v aju):∀{s:aq}{n:j}{w:bg},s.e=ajr->s.W=Z->cK s f N o->e.y<=n->fC N e.cB->
 (∀U,cK U f aju o->eg f s U->w (.e v) (D (U.b k d I)))->V (n+1) 1345 [.c (aT (f+2)),e.u] (D (s.b k d I)) w:=by
 have ajl:∀{a b:aE}{N R Y:bQ}{T y:x}{s:aq}{n:j}{CS:x->bg},dw Z a N=O (T,R)->dw Z b R=O (y,Y)->s.W=Z->cK s f N o->max a.y b.y+1<=n->fC N (a.cB+b.cB)->(∀U,cK U f Y o->eg f s U->CS T y (D (U.b k d I)))->V n 1352 [.c (aT (f+2)),a.u] (D (s.b k d I)) λT H=>V n 1352 [.c (aT (f+2)),b.u] H λy H=>CS T y H:= λ{a b N R Y T y s n CS} h W t F c r g=>by obtain⟨n,rfl⟩:∃X,n=X+1:=⟨n-1,k6 .a (.b .e .r) (.l (.b .e .r) .a) [1,-1] cc (dc (ck (.le .r .a) (.le (.b .e .r) .a) c))⟩;exact pF S (t▸h) F (fE (.le .a .e) (.le .a .l) (.le (.b .l .r) (.b .e .r)) (kF _ _) c) (r.bz (cZ _ _)) λM L C=>pF (s:=M) S (by rw[C.W.1,t];exact W) L (fE (.le .a .e) (.le .a .l) (.le (.b .l .r) (.b .e .r)) (mh _ _) c) (jC h r) λajm ajn ajo=>g ajm ajn (C.y ajo)
 have ajq:∀{a:aE}{N R:bQ}{T:x}{s:aq}{n:j}{CS:bg},dw Z a N=O (T,R)->s.W=Z->cK s f N o->a.y+1<=n->fC N a.cB->(∀U,cK U f R o->eg f s U->CS T (D (U.b k d I)))->V n 1352 [.c (aT (f+2)),a.u] (D (s.b k d I)) CS:= λ{a N R T s n CS} h t F c r g=>by obtain⟨n,rfl⟩:∃X,n=X+1:=⟨n-1,k6 .a (.b .e .r) (.l (.b .e .r) .a) [1,-1] cc (dc (ck (.le .r .a) (.le (.b .e .r) .a) c))⟩;exact pF S (t▸h) F (ck (.le .a .e) (.le (.b .a .r) (.b .e .r)) c) r g
 induction h with
 | @p a b N R Y v h _ OL i=>intro s n w P t F c r g;have c:max a.y b.y+1<=n:=c;obtain⟨n,rfl⟩:∃X,n=X+1:=⟨n-1,k6 .a (.b .e .r) (.l (.b .e .r) .a) [1,-1] cc (dc (ck (.le .r .a) (.le (.b .e .r) .a) c))⟩;exact S.r (Iw.mpr (OL P t F (fE (.le .a .e) (.le .a .l) (.le (.b .l .r) (.b .e .r)) (kF _ _) c) (r.bz (cZ _ _)) λM L C=>i (by rw[C.W.2,P]) (by rw[C.W.1,t]) L (fE (.le .a .e) (.le .a .l) (.le (.b .l .r) (.b .e .r)) (mh _ _) c) (h.s r) λajm ajn ajo=>g ajm ajn (C.y ajo)))
 | @d a b N R h OL=>intro s n w P t F c r g;have c:max a.y b.y+1<=n:=c;obtain⟨n,rfl⟩:∃X,n=X+1:=⟨n-1,k6 .a (.b .e .r) (.l (.b .e .r) .a) [1,-1] cc (dc (ck (.le .r .a) (.le (.b .e .r) .a) c))⟩;exact S.r (Iw.mpr (OL P t F (fE (.le .a .e) (.le .a .l) (.le (.b .l .r) (.b .e .r)) (kF _ _) c) (r.bz (cZ _ _)) λM L C=>g M L C))
 | @z a N R v h OL=>intro s n w P t F c r g;have c:a.y+1<=n:=c;obtain⟨n,rfl⟩:∃X,n=X+1:=⟨n-1,k6 .a (.b .e .r) (.l (.b .e .r) .a) [1,-1] cc (dc (ck (.le .r .a) (.le (.b .e .r) .a) c))⟩;exact S.r (aeK.mpr (OL P t F (ck (.le .a .e) (.le (.b .a .r) (.b .e .r)) c) r λM L C=>g M L C))
 | @K ajp i N=>intro s n w P t F c r g;refine S.r (aeL.mpr (S.c4 c (Bh S F r.C r.b λM L C=>?_)));rw[P,(sp ajv).1];exact g M L C
 |J=>intro s n w P t F c r g;exact S.c4 (ev 1 n) (S.r (aeP.mpr (g s F .D)))
 | @w a e N R Y T v h _ OL=>intro s n w P t F c r g;have c:max a.y e.y+1<=n:=c;obtain⟨n,rfl⟩:∃X,n=X+1:=⟨n-1,k6 .a (.b .e .r) (.l (.b .e .r) .a) [1,-1] cc (dc (ck (.le .r .a) (.le (.b .e .r) .a) c))⟩;exact S.r (aeM.mpr (pF S (t▸h) F (fE (.le .a .e) (.le .a .l) (.le (.b .l .r) (.b .e .r)) (kF _ _) c) (r.bz (cZ _ _)) λM L C=>OL (by rw[C.W.2,P]) (by rw[C.W.1,t]) L (fE (.le .a .e) (.le .a .l) (.le (.b .l .r) (.b .e .r)) (mh _ _) c) (jC h r) λajm ajn ajo=>g ajm ajn (C.y ajo)))
 | @A ajp e N R T h=>intro s n w P t F c r g;refine S.r (aeN.mpr (ajq h t F c r λM L C=>?_));have g:=g M L C;revert g;cases jP T<;>exact id
 |B h W e=>intro s n w P t F c r g;exact S.r (aeO.mpr (ajl h W t F c r λM L C=>e.C (xl (g M L C))))
 |G h=>intro s n w P t F c r g;exact S.r (Bi.mpr (ajq h t F c r λM L C=>xl (g M L C)))
 |al h=>intro s n w P t F c r g;exact S.r (Bi.mpr (ajq h t F c r λM L C=>xl (g M L C)))
 |u h=>intro s n w P t F c r g;exact S.r (Bi.mpr (ajq h t F c r λM L C=>xl (g M L C)))
 | @l ajp a b N R Y T y ajs h W e=>intro s n w P t F c r g;refine S.r (aeQ.mpr (ajl h W t F c r λM L C=>e.C ?_));have g:=g M L C;induction ajs using fD<;>exact g
 | @o ajp a b N R Y T y ajs h W e=>intro s n w P t F c r g;refine S.r (aeR.mpr (ajl h W t F c r λM L C=>e.C ?_));have g:=g M L C;induction ajs using fD<;>exact g
 | @lt ajp i ajt a b N R Y h W=>intro s n w P t F c r g;exact S.r (aeS.mpr (ajl h W t F c r λM L C=>g1.C (.a i ajt) (IC (bs:=af) (g M L C))))
 | @I ajp i ajt a b N R Y h W=>intro s n w P t F c r g;exact S.r (aeT.mpr (ajl h W t F c r λM L C=>g1.C (.a i ajt) (IC (bs:=aN) (g M L C))))
theorem xm (h:d≠o):bH (Internal.bF aI d p) o=bH aI o:=by
 induction aI with
 |nil=>show(if d=o then O p else ab)=ab;rw[ce h]
 |cons b aI c=>
  obtain⟨k,a⟩:=b;refine(?_:bH (if k=d then(k,p)::aI else(k,a)::Internal.bF aI d p) o=(if k=o then O a else bH aI o));by_cases e:k=d
  ·subst e;rw[cP aa,ce h];refine(?_:(if k=o then O p else bH aI o)=_);rw[ce h]
  ·rw[ce e];refine(?_:(if k=o then O a else bH (Internal.bF aI d p) o)=_);rw[c]
def pH (h:bH az.d d=O p):dw aI (.h o d) az=O (p,az):=by refine(?_:(bH az.d d).map (λx=>(x,az))=_);rw[h];rfl
def Bk (h:dw aI bP az=O jf):dw aI (fd B bP) az=O jf:=by
 delta fd;cases an (B=fQ B)with
 |true=>exact h
 |false=>refine(?_:(dw aI bP az).bind (λjf=>pD bP.i 1 jf)=_);rw[h];rfl
def og (d:E)(f:b2)(e:aE)(c:bQ)(v:m)(g:x)(b:bm):Prop:=∃a,eD d f e c (iA b) a/\a.c=c.c/\bH a.d v=O g
def ID:1-iA (!bs)=iA bs:=by induction bs using fD<;>rfl
theorem IE:jv 12 d J=.t (.is (.h 12 d) (eG J)) (.q 1 92 (.conv (eG J) (.h 12 d) 5) (.p (eG J) (.e J))):=by refine(?_:(match an (J< -2147483648\/2147483647<J)with|true=>_|false=>_:aE)=_);delta eG;cases an (J< -2147483648\/2147483647<J)<;>rfl
def IF:eG J=9\/eG J=7:=by
 delta eG;cases an (J< -2147483648\/2147483647<J)with
 |true=>exact .inl aa
 |false=>exact .inr aa
theorem aeW (l:B≠13){m:bk}(f:i9 B m p)(a:bH az.d d=O p):og k aI (jv B d J) az d p (iy p B (.c J)):=by
 have L:∀g,dw aI (.h g d) az=O (p,az):= λg=>pH a;rcases f with⟨h,_⟩|⟨h,f⟩|⟨h,f⟩|⟨h,w,f,_⟩
 ·exact b6 h l
 ·subst h;rw[IE];have j:=IF (J:=J);rcases f with rfl|⟨s,rfl,o⟩|⟨c,x,o,rfl⟩
  ·refine⟨az,.d ?_,aa,a⟩;have:=eD.al (n:=k) (k:=eG J) (L 12);rw[cL (by exact j.elim (λi=>go [] [_] (.b (.Eq .K .a)) (.Eq .a (.y 9)) [-1,-1] i) λi=>go [] [_] (.b (.Eq .K .a)) (.Eq .a (.y 7)) [-1,-1] i)]at this;exact this
  ·refine⟨az,.d ?_,aa,a⟩;have:=eD.G (n:=k) (k:=eG J) (L 12);rw[cL (by exact j.elim (λi=>hO (.b (.Eq (.y 13) .a)) (.Eq .a (.y 9)) i) λi=>hO (.b (.Eq (.y 13) .a)) (.Eq .a (.y 7)) i)]at this;exact this
  ·have b:=eD.u (n:=k) (k:=eG J) (L 12);refine(?_:og _ _ _ _ _ _ (an (c=eG J)&&an (x=J)));by_cases e:c=eG J
   ·rw[dz e]at b⊢;exact⟨az,.p b (.l (p:=.e x) (y:=.e J) (by show(dw aI (.h 12 d) az).bind (λn=>pD 12 5 n)=_;rw[L];rfl) aa (.a x J)),aa,a⟩
   ·rw[cL e]at b⊢;exact⟨az,.d b,aa,a⟩
 ·have b:∀g,eD k aI (.A g (.h g d)) az (iA (!jP p)) az:= λg=>.A (L g);rcases h with rfl|rfl<;>rcases f with rfl|⟨x,rfl⟩
  ·exact⟨az,.d (b 19),aa,a⟩
  ·refine⟨az,.p (b 19) (.l (p:=.e x) (y:=.e J) ?_ aa (.a x J)),aa,a⟩;refine(?_:(dw aI (.h 19 d) az).map _=_);rw[L];rfl
  ·exact⟨az,.d (b 20),aa,a⟩
  ·refine⟨az,.p (b 20) (.l (p:=.e x) (y:=.e J) ?_ aa (.a x J)),aa,a⟩;refine(?_:((dw aI (.h 20 d) az).map _).bind _=_);rw[L];rfl
 ·subst f;delta jv;rw[cL h.2.2.1,cL h.2.2.2,cL h.2.1];exact⟨az,.l (Bk (L B)) aa (.a w J),aa,a⟩
theorem aeX (i:B=13\/B=12)(e:r8 a9){l:bk}(f:i9 B l p)(b:bH az.d d=O p):og k aI (nq B d a9) az d p (iy p B (.gM a9)):=by
 have L:∀j,dw aI (.h j d) az=O (p,az):= λj=>pH b;rcases f with⟨h,f⟩|⟨h,f⟩|⟨h,_⟩|⟨h,_⟩
 ·subst h;rcases f with rfl|⟨s,rfl,g⟩
  ·exact⟨az,.B (L 13) aa (.b e),aa,b⟩
  ·exact⟨az,.B (L 13) aa (.c g e),aa,b⟩
 ·subst h;have A:dw aI (.v 13 (.h 12 d)) az=pE (p,az):=by refine(?_:(dw aI (.h 12 d) az).bind pE=_);rw[L];rfl
  rcases f with rfl|⟨s,rfl,g⟩|⟨c,y,a,rfl⟩
  ·exact⟨az,.B A aa (.b e),aa,b⟩
  ·exact⟨az,.B A aa (.c g e),aa,b⟩
  ·exact⟨az,.B A aa (.b e),aa,b⟩
 ·exfalso;exact i.elim (λc=>h.elim (λa=>g5 [] [_] .F (.Eq .a (.y 19)) (.Eq .a (.y 13)) [-1,1] a c) λa=>g5 [] [_] .F (.Eq .a (.y 20)) (.Eq .a (.y 13)) [-1,1] a c) λc=>h.elim (λa=>g5 [] [_] .F (.Eq .a (.y 19)) (.Eq .a (.y 12)) [-1,1] a c) λa=>g5 [] [_] .F (.Eq .a (.y 20)) (.Eq .a (.y 12)) [-1,1] a c
 ·exact(i.elim h.1 h.2.1).elim
theorem aeY (j:B=12\/B=13\/B=19\/B=20){l:bk}(a:i9 B l p)(g:bH az.d d=O p):og k aI (l1 B d) az d p (iy p B .d):=by
 have L:∀b,dw aI (.h b d) az=O (p,az):= λb=>pH g;have f:∀{b:m}{t:bm},g1 p .C t->iy p B .d=t->og k aI (.z (.q 1 89 (.h b d) (.p b .C))) az d p (iy p B .d):= λ{b t} h e=>by rw[e];refine⟨az,?_,aa,g⟩;rw[<-ID];exact .z (.o (L b) aa h)
 have n:(B=19\/B=20)->iy p B .d=jP p->og k aI (l1 B d) az d p (iy p B .d):= λh e=>by rw[e];refine⟨az,?_,aa,g⟩;rw[<-ID];rw[(by rcases h with rfl|rfl<;>rfl:l1 B d=.z (.A B (.h B d)))];exact .z (.A (L B))
 rcases a with⟨h,a⟩|⟨h,a⟩|⟨h,a⟩|⟨h,_⟩
 ·subst h;rcases a with rfl|⟨s,rfl,i⟩
  ·exact f .kO aa
  ·exact f (.ns i) aa
 ·subst h;rcases a with rfl|⟨s,rfl,i⟩|⟨c,y,o,rfl⟩
  ·exact f .kO aa
  ·exact f (.ns i) aa
  ·exact f (.d c y ()) aa
 ·rcases a with rfl|⟨x,rfl⟩<;>exact n h aa
 ·exact(j.elim h.2.1 λq=>q.elim h.1 λq=>q.elim h.2.2.1 h.2.2.2).elim
theorem IG (g:bH az.d d=O p)(n:d≠J)(h:p=.C\/(∃s,p=.f s)\/∃c y:m,p=.r [.f (bG 94),.e c,.e y])(i:o≠13)(j:o≠0):
 ∃a,eD k aI (sd (.h 12 d) o J) az (iA (an (kindOf p 12=o))) a/\a.c=az.c/\∀f,f≠J->bH a.d f=bH az.d f:=by
 have L:dw aI (.h 12 d) az=O (p,az):=pH g;rcases h with rfl|⟨s,rfl⟩|⟨c,y,rfl⟩
 ·have a:=eD.al (n:=k) (k:=o) L;rw[show kindOf .C 12=0 from aa];rw[cL j.symm]at a⊢;exact⟨az,.d a,aa,λb b=>aa⟩
 ·have a:=eD.G (n:=k) (k:=o) L;rw[show kindOf (.f s) 12=13 from aa];rw[cL i.symm]at a⊢;exact⟨az,.d a,aa,λb b=>aa⟩
 ·have a:=eD.u (n:=k) (k:=o) L;rw[show kindOf (.r [.f (bG 94),.e c,.e y]) 12=c from aa];by_cases e:c=o
  ·rw[dz e]at a⊢;refine⟨az.X J (.e y),.p a (.w (p:=.e y) ((?_:((dw aI (.h 12 d) az).bind (λl=>pD 12 5 l)).map _=_)) .J),aa,λf l=>xm l.symm⟩;rw[L];rfl
  ·rw[cL e]at a⊢;exact⟨az,.d a,aa,λb b=>aa⟩
theorem aeZ {f:Q m}(u:(J=7\/J=9)/\(B=7\/B=9\/B=12\/B=16)\/J=16/\(B=7\/B=9\/B=16)\/J=13/\B=12)(l:aF≠d)(D:o≠d)(E:o≠aF){F:bk}(i:i9 B F p)(a:bH az.d d=O p):og k aI (ef B d J aF o) az d p (iy p B (.b J aF f)):=by
 have L:∀v,dw aI (.h v d) az=O (p,az):= λv=>pH a;by_cases j:B=12
 ·subst j;have i:p=.C\/(∃s,p=.f s/\r8 s)\/∃c d:m,(c=7\/c=9)/\p=.r [.f (bG 94),.e c,.e d]:=by
   rcases i with⟨h,_⟩|⟨_,h⟩|⟨h,_⟩|⟨h,_⟩
   ·cases h
   ·exact h
   ·exfalso;exact h.elim (λb=>go [] [] .F (.Eq (.y 12) (.y 19)) [-1] b) λb=>go [] [] .F (.Eq (.y 12) (.y 20)) [-1] b
   ·exact b6 aa h.2.1
  delta ef;by_cases z:aF=0
  ·rw[dz z];rcases i with rfl|⟨s,rfl,w⟩|⟨c,y,C,rfl⟩
   ·exact⟨az,.al (L 12),aa,a⟩
   ·exact⟨az,.G (L 12),aa,a⟩
   ·exact⟨az,.u (L 12),aa,a⟩
  rw[cL z];by_cases n:J=13
  ·subst n;have A:dw aI (.v 13 (.h 12 d)) az=pE (p,az):=by refine(?_:(dw aI (.h 12 d) az).bind pE=_);rw[L];rfl
   have q:∀{g:x}{t:bm},pE (p,az)=O (g,az)->g1 g .C t->an (kindOf p 12=13)=!t->og k aI (.w (.d 13 aF (.v 13 (.h 12 d))) (.q 1 89 (.h 13 aF) (.p 13 .C))) az d p (an (kindOf p 12=13)):= λ{g t} h e r=>by rw[r];refine⟨az.X aF g,.w (p:=g) ((?_:(dw aI (.v 13 (.h 12 d)) az).map _=_)) (.o (p:=g) (pH uA) aa e),aa,(xm l).trans a⟩;rw[A,h];rfl
   rcases i with rfl|⟨s,rfl,w⟩|⟨c,y,C,rfl⟩
   ·exact q aa .kO aa
   ·exact q aa (.ns w) aa
   ·refine q (g:=.C) aa .kO ?_;rcases C with rfl|rfl<;>rfl
  ·rw[cL n];exact dU (IG (k:=k) (aI:=aI) (o:=J) (J:=aF) a l.symm (i.imp id λh=>h.imp (λ⟨s,e,_⟩=>⟨s,e⟩) λ⟨c,y,_,e⟩=>⟨c,y,e⟩) n λe=>u.elim (λh=>h.1.elim (λh=>b6 (e.symm.trans h) ⋯) λh=>b6 (e.symm.trans h) ⋯) λh=>h.elim (λh=>b6 (e.symm.trans h.1) ⋯) λh=>n h.1) λg q r t=>⟨g,q,r,(t d l.symm).trans a⟩
 ·have c:(J=7\/J=9\/J=16)/\(B=7\/B=9\/B=16):=CX u j;have e:∃w:m,p=.e w:=by
   rcases i with⟨h,_⟩|⟨h,_⟩|⟨h,_⟩|⟨_,w,h,_⟩
   ·exact(oK c.2 ⋯ ⋯ ⋯ h).elim
   ·exfalso;exact(Int.lt_or_gt_of_ne j).elim (λb=>g5 [] [_] .F (.Lt .a (.y 12)) (.Eq .a (.y 12)) [1,-1] b h) λb=>hA [] [_] .F (.Lt (.y 12) .a) (.Eq .a (.y 12)) b h
   ·exact(h.elim (oK c.2 ⋯ ⋯ ⋯) (oK c.2 ⋯ ⋯ ⋯)).elim
   ·exact⟨w,h⟩
  refine bu e ?_;clear e;rintro w rfl;have n:dw aI (ih B d) az=O (.r [.f (bG 94),.e B,.e w],az):=by delta ih;rw[cL j];refine(?_:(dw aI (.h B d) az).bind (λs=>pD B 4 s)=_);rw[L];rfl
  delta ef;by_cases z:aF=0
  ·rw[dz z];exact⟨az,.u n,aa,a⟩
  rw[cL z,cL (show¬J=13 from oK c.1 ⋯ ⋯ ⋯),cL j];refine dU (IG (k:=k) (aI:=aI) (az:=az.X o (.r [.f (bG 94),.e B,.e w])) (o:=J) (J:=aF) uA E (ey ⟨B,w,aa⟩) (oK c.1 ⋯ ⋯ ⋯) (oK c.1 ⋯ ⋯ ⋯)) λg q r t=>⟨g,.w (p:=.r [.f (bG 94),.e B,.e w]) ?_ q,r,?_⟩
  ·refine(?_:(dw aI (ih B d) az).map _=_);rw[n];rfl
  ·rw[t d l.symm];exact(xm D).trans a
theorem ae0 (y:fX k){l:a3}{z:aO}{A:bk}(x:hW B)(c:fP B d z l)(j:i9 B A p)(m:bH az.d d=O p)(C:l≠.a)(D:o≠d)(E:∀s n f,l=.b s n f->o≠n)(F:d≠0):
 ∃a,eD k aI (jZ B d o l) az (iA (dR k p B l az.c).1) a/\a.c=(dR k p B l az.c).2/\bH a.d d=O p:=by
 have q:∀{e:aE},og k aI e az d p (iy p B l)->ux l=ab->∃a,eD k aI e az (iA (dR k p B l az.c).1) a/\a.c=(dR k p B l az.c).2/\bH a.d d=O p:= λ⟨b,g,G,i⟩ H=>by
  have:dR k p B l az.c=(iy p B l,az.c):=by delta dR;rw[H];cases iy p B l<;>rfl
  rw[this];exact⟨b,g,G,i⟩
 induction l using iD with
 |c J=>exact q (aeW c.1 j m) aa
 |gM x=>exact q (aeX c.1 c.2 j m) aa
 |a=>exact b6 aa C
 |d=>exact q (aeY c j m) aa
 |b s n f=>
  have t:=aeZ (k:=k) (aI:=aI) (f:=f) c.1 (c.2.elim (λh=>by rw[h];exact F.symm) B1) D (E _ _ _ aa) j m;induction f using gA with
  |none=>exact q t aa
  |some f=>
   refine dU t λb g i h=>?_;delta dR;cases u:iy p B (.b s n (O f))with
   |false=>rw[u]at g;exact⟨b,.d g,i,h⟩
   |true=>rw[u]at g;refine⟨b.W f,.p g ?_,by show b.c.W f=_;rw[i];rfl,h⟩;have r:=eD.K (n:=k) (l:=aI) (k:=1) (f:=f) (d:=b);rw[i]at r;refine(?_:eD k aI (.K 1 f) b (iA (je k az.c.r)) _);rcases(sp y (i:=az.c.r)).2 with⟨v,w⟩|⟨v,w⟩<;>rw[v]<;>rw[w]at r<;>exact r
noncomputable abbrev dL (z:j)(a b c d e f:be):aS:=[O (.c z),O (.c 76),a,b,c,d,e,f]
def ae1:bM bK (al q) A 1338 [.c f,.c 76] c w=a' (aw q A 9) G0 (dL f ab ab ab ab ab ab) c (ch w):=()
def ae2:aw q A 9 GU (dL f M N Y ag ah ao) c G=mk c (.h []) λp c=>G .next (dL f (O p) N Y ag ah ao) c:=()
abbrev IH (a:ac->Q E)(C:aQ):f4:= λaM L c w=>(ei (al a) C 13).c (.s 3) aM L c λL c=>a' (aw a C 8) [GV] L c w
def ae3:aw q A 9 GW (dL f M N Y ag ah ao) c G=a7 c[76]? λo=>i6 o λz=>js [.e z] λa=>ds (IH q A) ⟨a,ab⟩ a (dL f M N Y ag ah ao) c G:=()
theorem ae4:IH q A (.e bo) (dL f (O (.c z)) N Y ag ah ao) c G=a7 c[76]? λa=>gi (.e bo) a λaM=>ed (al q) aM (.e 0) c λB=>dg c B (.e 20) λb=>bB b (a7 c[76]? λa=>gi (.e bo) a λaM=>ed (al q) aM (.e 1) c λo=>mp (.c z) o (.e bo) c λc=>G .next (dL f (O (.c z)) (O (.e bo)) Y ag ah ao) c) (G .next (dL f (O (.c z)) (O (.e bo)) Y ag ah ao) c):=()
def ae5:aw q A 9 GX (dL f M N Y ag ah ao) c G=G .next (dL f M N (O (.e 0)) ag ah ao) c:=()
abbrev xn (a:ac->Q E)(C:aQ):aS->Z->fp->Prop:= λL c w=>(ei (al a) C 13).T (.p .Lt (.s 4) (.A .W [(.s 1)])) L c w
abbrev xo (a:ac->Q E)(C:aQ):aS->Z->bZ->Prop:= λL c w=>a' (aw a C 8) [zZ,wD,wE,wF,wG,mH,tX] L c w
def ae6:aw q A 9 GY ax c G=∃n,nU (xn q A) (xo q A) n ax c G:=()
def ae7:xn q A (dL f M N (O (.e bo)) ag ah ao) c fF=a7 c[76]? λo=>i6 o λz=>fF (an (bo<z)) c:=()
def ae8:aw q A 8 zZ (dL f M N Y ag ah ao) c G=eP (.c f) 84 c λp=>rL .Add p (.e 1) c λy c=>rI (.c f) 84 y c λc=>G .next (dL f M N Y ag ah ao) c:=()
def ae9:aw q A 8 wD (dL f M N Y ag ah ao) c G=eP (.c f) 84 c λp=>cR p λi=>bB (an (2000<i)) (G (.c (.f (bG 95))) (dL f M N Y ag ah ao) c) (G .next (dL f M N Y ag ah ao) c):=()
def afa:aw q A 8 wE (dL f M N (O (.e bo)) ag ah ao) c G=a7 c[76]? λo=>gi (.e bo) o λaM=>G .next (dL f M N (O (.e bo)) (O aM) ah ao) c:=()
def afb:aw q A 8 wF (dL f M N (O (.e bo)) ag ah ao) c G=G .next (dL f M N (O (.e (bo+1))) ag ah ao) c:=()
def afc:aw q A 8 wG (dL f M N Y ag ah ao) c G=G .next (dL f M N Y ag (O (.e (-1))) ao) c:=()
def afd:aw q A 8 mH (dL f M N Y (O (.r [.e 20,.e o])) ah ao) c G=G .next (dL f M N Y (O (.r [.e 20,.e o])) ah ao) c:=()
def afe:aw q A 8 mH (dL f M N Y (O (.r [.e 21,.e o])) ah ao) c G=G .next (dL f M N Y (O (.r [.e 21,.e o])) (O (.e o)) ao) c:=()
theorem II:aw q A 8 mH (dL f M N Y (O (.r [.e 22,U,.e aF,.e o])) ah ao) c G=A 1345 [.c f,U] c λt c=>dg c t (.e aF) λb=>bB b (G .next (dL f M N Y (O (.r [.e 22,U,.e aF,.e o])) (O (.e o)) ao) c) (G .next (dL f M N Y (O (.r [.e 22,U,.e aF,.e o])) ah ao) c):=()
theorem IJ:aw q A 8 mH (dL f M N Y (O (.r [.e 23,U,.r k])) ah ao) c G=A 1352 [.c f,U] c λp c=>ng .Mod p (.e 4294967296) c λi c=>cR i λj=>bB (an (j<(L k:m))) (cR i λj=>a7 (dD k j) λy=>G .next (dL f M N Y (O (.r [.e 23,U,.r k])) (O y) (O i)) c) (G .next (dL f M N Y (O (.r [.e 23,U,.r k])) ah (O i)) c):=()
def aff:aw q A 8 mH (dL f M N Y (O (.r [.e 1,U])) ah ao) c G=A 1352 [.c f,U] c λa c=>G .next (dL f M N Y (O (.r [.e 1,U])) ah ao) c:=()
def afg:aw q A 8 mH (dL f M N Y (O (.r [.e 12,U])) ah ao) c G=A 1352 [.c f,U] c λa c=>G (.c (.e 12)) (dL f M N Y (O (.r [.e 12,U])) ah ao) c:=()
theorem afh:aw q A 8 tX (dL f (O (.c z)) N Y ag (O (.e o)) ao) c G=bB (an (0<=o)) (a7 c[z]? λa=>gi (.e o) a λy=>G .next (dL f (O (.c z)) N (O y) ag (O (.e o)) ao) c) (G .next (dL f (O (.c z)) N Y ag (O (.e o)) ao) c):=()
inductive kx (f:E)(d:b2)(b:n S):j->bQ->j->bQ->Prop
 |a {p:j}{a:bQ}{l:m} (h:b[p]?=O (.a l)):kx f d b p a (p+1) a
 |bw {p q:j}{a:bQ}{l:m} (h:b[p]?=O (.bw l)) (o:b[q]?=O (.a l)) (r:0<=l):kx f d b p a q a
 |b {p q:j}{a c:bQ}{e:aE}{w l:m} (h:b[p]?=O (.b e w l)) (k:eD f d e a w c) (o:b[q]?=O (.a l)) (r:0<=l):kx f d b p a q c
 |c {p:j}{a c:bQ}{e:aE}{w l v:m} (h:b[p]?=O (.b e w l)) (k:eD f d e a v c)(g:v≠w):kx f d b p a (p+1) c
 |d {p q i:j}{a c:bQ}{e:aE}{g:bk}{v l:m} (h:b[p]?=O (.d e g)) (k:dw d e a=O (.e v,c))(s:v.fmod 4294967296=(i:j)) (t:g[i]?=O l) (o:b[q]?=O (.a l)) (r:0<=l):kx f d b p a q c
 |f {p:j}{a c:bQ}{e:aE}{g:bk}{v:m} (h:b[p]?=O (.d e g)) (k:dw d e a=O (.e v,c))(s:(L g:m)<=v.fmod 4294967296):kx f d b p a (p+1) c
 |r {p:j}{a c:bQ}{e:aE}{t:x} (h:b[p]?=O (.r e)) (k:dw d e a=O (t,c)):kx f d b p a (p+1) c
structure oh (e:E)(f:b2)(g:n S)(p:j)(c:bQ)(q:j)(d:bQ):Prop where
 a:kx e f g p c q d
 ab:c.c.r<=d.c.r
 b:p<q\/c.c.r<6/\c.c.r<d.c.r
class inductive dS (c:E)(d:b2)(e:n S):j->bQ->j->bQ->Prop
 |D {p:j}{b:bQ}:dS c d e p b p b
 |a {p q r:j}{b f g:bQ}(h:oh c d e p b q f)(k:dS c d e q f r g):dS c d e p b r g
def dS.y (h:dS k aI ai f az z gf)(b:dS k aI ai z gf aK qZ):dS k aI ai f az aK qZ:=by
 induction h with
 |D=>exact b
 |a h _ c=>exact .a h (c b)
def dS.ew (h:oh k aI ai f az z gf):dS k aI ai f az z gf:=.a h .D
inductive oi (b:n S):j->bQ->x->bQ->Prop
 |y {a:bQ}:oi b (L b) a .C a
 |c {p:j}{a:bQ}{f:m} (h:b[p]?=O (.c f)):oi b p a (.e 12) (a.bF f)
def Bl (a:n S)(b:j)(d:b2):Prop:=∀(q:j)(l:m),q<b->a[q]?=O (.a l)->bH d l=O (.e q)
def oj (a:n S):Prop:=∀c,c∈a->∀e,e∈c.s->e.y<=20/\e.cB<=10
def Bm (h:ai[aK]?=O eX):(ai.map S.u)[aK]?=O eX.u:=by rw[h4,h];rfl
def uC:(D (h.b (ai.map S.u) d []))[76]?=O (.y (ai.map S.u)):=aa
def IK (q:w (.e (d.fmod 4294967296)) c):ng .Mod (.e d) (.e 4294967296) c w:=q
theorem afi (A:b4 q V)(Q:fX k)(R:h.e=k)(B:h.W=aI)(a:kx k aI ai aK az bf gf)(y:cK h f az o)(C:oj ai){T:j}(r:fC az (10+T)){c:S} (u:ai[aK]?=O c)
 (K:∀J g ah,cK J f gf o->eg f h J->fC gf T->(g= -1/\bf=aK+1\/0<=g/\ai[bf]?=O (.a g))->G .next (dL (aT (f+2)) (O (.c (aT z))) M N (O c.u) (O (.e g)) ah) (D (J.b (ai.map S.u) d []))):
 aw q (V 22) 8 mH (dL (aT (f+2)) (O (.c (aT z))) M N (O c.u) (O (.e (-1))) ah) (D (h.b (ai.map S.u) d [])) G:=by
 have E:=jK u;induction a using kx.casesOn with
 |a a=>rw[u]at a;replace a:=aY a;subst a;exact afd.mpr (K h (-1) ah y .D (r.bz (ev _ _)) (.inl ⟨aa,aa⟩))
 |bw a F H=>rw[u]at a;replace a:=aY a;subst a;exact afe.mpr (K h _ ah y .D (r.bz (ev _ _)) (.inr ⟨H,F⟩))
 | @b _ _ _ e w l a n F H=>rw[u]at a;replace a:=aY a;subst a;have b:=C _ E e (cz.mpr aa);exact II.mpr (n.C (n:=21) A Q R B y (jN (.le .a (.y 21)) (.e (.le .a (.y 20)) (.le .e (.y 10))) [1,1,0] b) (r.bz (iG (.le .a (.b (.y 10) .e)) (.e (.le .l (.y 20)) (.le .a (.y 10))) [1,0,1] b)) λp s t=>pz aa (K p l ah s t (n.s (r.bz (iG (.le (.b .a .e) (.b (.y 10) .e)) (.e (.le .l (.y 20)) (.le .a (.y 10))) [1,0,1] b))) (.inr ⟨H,F⟩)))
 | @c _ _ e w l v a n i=>rw[u]at a;replace a:=aY a;subst a;have b:=C _ E e (cz.mpr aa);refine II.mpr (n.C (n:=21) A Q R B y (jN (.le .a (.y 21)) (.e (.le .a (.y 20)) (.le .e (.y 10))) [1,1,0] b) (r.bz (iG (.le .a (.b (.y 10) .e)) (.e (.le .l (.y 20)) (.le .a (.y 10))) [1,0,1] b)) λp s t=>g1.C (.a v w) ?_);rw[cL i];exact K p (-1) ah s t (n.s (r.bz (iG (.le (.b .a .e) (.b (.y 10) .e)) (.e (.le .l (.y 20)) (.le .a (.y 10))) [1,0,1] b))) (.inl ⟨aa,aa⟩)
 | @d _ i _ _ e I v l a n P U F H=>rw[u]at a;replace a:=aY a;subst a;have b:=C _ E e (cz.mpr aa);refine IJ.mpr (pF (n:=21) A (B▸n) y (jN (.le .a (.y 21)) (.e (.le .a (.y 20)) (.le .e (.y 10))) [1,1,0] b) (r.bz (iG (.le .a (.b (.y 10) .e)) (.e (.le .l (.y 20)) (.le .a (.y 10))) [1,0,1] b)) λp s t=>IK ?_);rw[P];refine(?_:bB (an (((i:j):m)<(L (I.map x.e):j))) _ _);rw[cj,dz (nB.mpr ((cs.mp U).1))];refine ba (fL:=dD (I.map x.e) (i:j)) (bW:=x.e l) ((?_:(I.map x.e)[i]?=_)) (K p l _ s t (jC n (r.bz (iG (.le (.b .a .e) (.b (.y 10) .e)) (.e (.le .l (.y 20)) (.le .a (.y 10))) [1,0,1] b))) (.inr ⟨H,F⟩));rw[h4,U];rfl
 | @f _ _ e I v a n P=>rw[u]at a;replace a:=aY a;subst a;have b:=C _ E e (cz.mpr aa);refine IJ.mpr (pF (n:=21) A (B▸n) y (jN (.le .a (.y 21)) (.e (.le .a (.y 20)) (.le .e (.y 10))) [1,1,0] b) (r.bz (iG (.le .a (.b (.y 10) .e)) (.e (.le .l (.y 20)) (.le .a (.y 10))) [1,0,1] b)) λp s t=>IK (?_:bB (an (v.fmod 4294967296<(L (I.map x.e):j))) _ _));rw[cj,cL (lz.mpr P)];exact K p (-1) _ s t (jC n (r.bz (iG (.le (.b .a .e) (.b (.y 10) .e)) (.e (.le .l (.y 20)) (.le .a (.y 10))) [1,0,1] b))) (.inl ⟨aa,aa⟩)
 | @r _ _ e i a n=>rw[u]at a;replace a:=aY a;subst a;have b:=C _ E e (cz.mpr aa);exact aff.mpr (pF (n:=21) A (B▸n) y (jN (.le .a (.y 21)) (.e (.le .a (.y 20)) (.le .e (.y 10))) [1,1,0] b) (r.bz (iG (.le .a (.b (.y 10) .e)) (.e (.le .l (.y 20)) (.le .a (.y 10))) [1,0,1] b)) λp s t=>K p (-1) ah s t (jC n (r.bz (iG (.le (.b .a .e) (.b (.y 10) .e)) (.e (.le .l (.y 20)) (.le .a (.y 10))) [1,0,1] b))) (.inl ⟨aa,aa⟩))
def mR (a:n S)(t p:j)(b:bQ):Prop:=t<=L a*min b.c.r 6+p
theorem mR.lt (h:mR ai f aK az)(a:L ai<=285)(b:aK<L ai):f+1<=2000:=lI [_,_,_,_] [] (.le (.b .a .r) (.y 2000)) (.le .a (.b .e .l)) (.le .s (.y 285)) (.lt .l .s) (.le .e (.f 6 .s)) [1,1,7,1,1] h a b (show L ai*min az.c.r 6<=6*L ai from Nat.mul_comm 6 _▸pK _ (rc _ _))
theorem mR.e (h:mR ai f aK az)(a:oh k aI ai aK az bf gf)(c:aK<L ai):mR ai (f+1) bf gf:=by
 unfold mR at h⊢;rcases a.b with d|⟨e,g⟩
 ·exact hB [_,_,_,_,_] [] (.le (.b .a .r) (.b .e .l)) (.le .a (.b .s .X)) (.lt .X .l) (.le .s .e) h d (pK _ (Nat.le_min.mpr ⟨aU (K2 _ _) a.ab,rc _ _⟩))
 ·have b:L ai*(min az.c.r 6+1)<=L ai*min gf.c.r 6:=pK _ (Nat.le_min.mpr ⟨aU (gy (K2 _ _)) g,aU (gy (K2 _ _)) e⟩);rw[Nat.mul_succ]at b;exact hB [_,_,_,_,_,_] [] (.le (.b .a .r) (.b .e .l)) (.le .a (.b .s .X)) (.lt .X .ab) (.le (.b .s .ab) .e) h c b
def kx.lt (h:kx k aI ai aK az bf gf):∃c,ai[aK]?=O c:=by cases h<;>exact⟨_,‹_›⟩
theorem IL (a:cK h f az bf)(i:bf+1<=2000){c:S} (k:ai[aK]?=O c)
 (K:∀b,cK b f az ((bf+1:j):m)->eg f h b->a' (aw q (V 22) 8) [mH,tX] (dL (aT (f+2)) (O (.c (aT z))) M (O (.e ((aK:m)+1))) (O c.u) (O (.e (-1))) ah) (D (b.b (ai.map S.u) d [])) G):
 xo q (V 22) (dL (aT (f+2)) (O (.c (aT z))) M (O (.e (aK:j))) Y ag ah) (D (h.b (ai.map S.u) d [])) G:=by
 have e:cK (h.X (f+2) (.K (qX f az.c.r ((bf+1:j):m)))) f az ((bf+1:j):m):=⟨hv (sV (pS ⋯)) a.d,hv (em (.b (.l (.b .a .W) (.b .a .r)))) a.c,pB a.a,a.b,a.iO⟩;refine bx.mpr (ae8.mpr (gw (p:=.e bf) (bO a.a) aa (ba (bO a.a) (fh (bs:=g8 84) aa (fM (f:=7) ⋯ ((?_:hX G (λL H=>a' (aw q (V 22) 8) [wD,wE,wF,wG,mH,tX] L H G) .next (dL (aT (f+2)) (O (.c (aT z))) M (O (.e (aK:j))) Y ag ah) (D ((h.X (f+2) (.K (qX f az.c.r ((bf:m)+1)))).b (ai.map S.u) d [])))))))));rw[show((bf:m)+1)=((bf+1:j):m)from(m2 bf 1).symm];exact bq (bx.mpr (ae9.mpr (gw (p:=.e ((bf+1:j):m)) (bO e.a) aa (fj (λg=>b6 (dT g) (g5 [_] [] (.b (.Lt (.y 2000) (.d (.b .a .r)))) (.le (.b .a .r) (.y 2000)) (.Lt (.y 2000) (.d (.b .a .r))) [0,1,1] i (dT g:))) λg=>bq (bx.mpr (afa.mpr (ba (uC (h:=h.X (f+2) _)) (ba (fL:=dD (ai.map S.u) (aK:j)) (Bm k) (bq (bx.mpr (afb.mpr (bq (bx.mpr (afc.mpr (bq (K _ e (.X (em (.le .a (.b .a .W))) (hi _))))))))))))))))))
theorem afj (w:b4 q V)(x:fX k)(y:h.e=k)(A:h.W=aI){t:j}(l:oh k aI ai aK az bf gf)(B:cK h f az t)(C:oj ai)(E:mR ai t aK az)(F:L ai<=285){n:j}(r:fC az (10+n)){o:b2}(H:f+3<=z) (I:h.l[z]?=O (.h o)) (J:Bl ai (L ai) o)
 (K:∀a Y ag ah,cK a f gf ((t+1:j):m)->eg f h a->fC gf n->G .next (dL (aT (f+2)) (O (.c (aT z))) M (O (.e (bf:j))) Y ag ah) (D (a.b (ai.map S.u) d []))):
 xo q (V 22) (dL (aT (f+2)) (O (.c (aT z))) M (O (.e (aK:j))) Y ag ah) (D (h.b (ai.map S.u) d [])) G:=by
 refine bu l.a.lt λc b=>IL B (E.lt F (cs.mp b).1) b λN P e=>bx.mpr (afi (h:=N) w x (by rw[e.W.2,y]) (by rw[e.W.1,A]) l.a P C r b λp g ah s Q u R=>bq (bx.mpr (afh.mpr ?_)));have i:=e.y Q;rcases R with⟨rfl,rfl⟩|⟨T,v⟩
 ·exact K p _ _ _ s i u
 ·rw[dz T];exact ba (bO (i.u _ _ (.inr H) I)) (ba (J bf g (cs.mp v).1 v) (bq (K p _ _ _ s i u)))
theorem Bn (a:fF (an (aK<L ai)) (D (h.b (ai.map S.u) d []))):xn q A (dL f N M (O (.e (aK:j))) Y ag ah) (D (h.b (ai.map S.u) d [])) fF:=by refine ae7.mpr (ba uC ((?_:fF (an (((aK:j):m)<(L (ai.map S.u):j))) _)));rw[cj,show an (((aK:j):m)<(L ai:j))=an (aK<L ai)from decide_eq_decide.mpr nB];exact a
theorem afk (E:b4 q V)(P:fX k)(Q:oj ai)(y:L ai<=285){F:b2}(H:f+3<=z)(R:Bl ai (L ai) F){r:j}{A I:bQ}{v:x}(T:dS k aI ai aK az r A)(J:oi ai r A v I):
 ∃n,∀(h:aq)(o:j)(M Y ag ah:be),h.e=k->h.W=aI->cK h f az o->mR ai o aK az->fC az (100000-10*o)->h.l[z]?=O (.h F)->
  (∀e B m,cK e f I B->eg f h e->(v=.C->G .next m (D (e.b (ai.map S.u) d [])))/\(v≠.C->G (.c v) m (D (e.b (ai.map S.u) d []))))->
  nU (xn q (V 22)) (xo q (V 22)) n (dL (aT (f+2)) (O (.c (aT z))) M (O (.e (aK:j))) Y ag ah) (D (h.b (ai.map S.u) d [])) G:=by
 induction T with
 | @D aK az=>
   induction J using oi.casesOn with
   |y=>refine⟨1,λh o M Y ag ah p s l g t u K=>(Bn ?_)⟩;rw[cL (pM _)];exact(K h _ _ l .D).1 aa
   | @c _ _ C b=>refine⟨1,λh o M Y ag ah p s l g t u K=>?_⟩;have i:=(cs.mp b).1;have w:=g.lt y i;refine Bn ?_;rw[dz i];exact IL l w b λCS N U=>bx.mpr (afg.mpr (pF (e:=.K 7 C) (n:=21) E aa N (ev 1 20) (t.bz (show 1<=_ by exact lK (.le .r .a) (.le (.b .e .r) (.y 2000)) (.l (.b .a (.f 10 .e)) (.y 100000)) [1,10,-1] w (dc (lJ (.le (.f 10 .a) (.y 100000)) (.le (.b .a .r) (.y 2000)) [1,10] w)))) λW X Z=>(K W _ _ X (U.y Z)).2 (λb=>by injection b)))
 | @a aK bf r az gf A b ajl C=>refine bu (C J) λn C=>⟨n+1,λh o M Y ag ah p s l g t u K=>(bu b.a.lt λajl U=>?_)⟩;have i:=(cs.mp U).1;have N:=g.lt y i;refine Bn ?_;rw[dz i];exact afj (n:=100000-10*(o+1)) E P p s b l Q g y (t.bz (g6 (.le (.b (.y 10) .a) .e) (.l (.b .a (.f 10 (.b .l .r))) (.y 100000)) (.l (.b .e (.f 10 .l)) (.y 100000)) [1,1,-1] (dc (lJ (.le (.f 10 (.b .a .r)) (.y 100000)) (.le (.b .a .r) (.y 2000)) [1,10] N)) (dc (lJ (.le (.f 10 .a) (.y 100000)) (.le (.b .a .r) (.y 2000)) [1,10] N)))) H u R λW Y ag ah X w Z=>C W (o+1) _ _ _ _ (by rw[w.W.2,p]) (by rw[w.W.1,s]) X (g.e b i) Z (w.u _ _ (.inr H) u) λe B m CS OL=>K e B m CS (w.y OL)
def IM (h:ai[f]?=O (.a d)):d∈du ai:=
 K3.mpr ⟨_,jK h,cz.mpr aa⟩
theorem afl:∀{a:n S}{q d:j}{l:m},(du a).Nodup->a[q]?=O (.a l)->a[d]?=O (.a l)->q=d:=by
 intro a;induction a with
 |nil=>intro q d l b h b;injection h
 |cons c a f=>
  intro q d l b h e;have b:(c.bF++du a).Nodup:=b;have b:=oH.mp b;induction q using dx with
  |zero=>
   induction d using dx with
   |zero=>rfl
   |succ k=>replace h:=aY h;subst h;exact b6 aa (b.2.2 l (cz.mpr aa) l (IM (show a[k]?=_ from e)))
  |succ g=>
   induction d using dx with
   |zero=>replace e:=aY e;subst e;exact b6 aa (b.2.2 l (cz.mpr aa) l (IM (show a[g]?=_ from h)))
   |succ k=>exact cp (·+1) (f b.2.1 h e)
def afm (s:aq)(a:n S)(b:m)(z i:j)(c:aS)(H:Z):Prop:=∀P:aS->bI,(∀(d:b2)(e:be),Bl a i d->L d<=i->P (dL z (O (.c (aT (L s.l)))) e ab ab ab ab) (D ((s.C [.h d]).b (a.map S.u) b [])))->P c H
def IN (e:k[f]?=O p) (a:cS p):gi (.e f) (.y k) cS:=ba (fL:=dD k f) e a
def afn (k:cS (.e 20)):ed (al q) (S.a d).u (.e 0) c cS:=k
def afo (k:cS (.e d)):ed (al q) (S.a d).u (.e 1) c cS:=k
def afp:(h.C [aZ]).X (L h.l) df=h.C [df]:=AS
theorem afq (E:b4 q V)(Q:fX k)(R:oj ai)(A:L ai<=285)(T:(du ai).Nodup){r:j}{F G:bQ}{v:x}(U:dS k aI ai 0 az r F)(W:oi ai r F v G)(X:h.e=k)(Y:h.W=aI)(I:cK h f az 0)(Z:fC az 100000)
 (K:∀o s,cK o f G s->eg f h o->w v (D (o.b (ai.map S.u) d []))):V 23 1338 [.c (aT (f+2)),.c 76] (D (h.b (ai.map S.u) d [])) w:=by
 refine E.r (ae1.mpr (bx.mpr (ae2.mpr (l5 (bq (bx.mpr (ae3.mpr (ba uC (HQ (z:=L ai) (cj ..) (aU A ⋯) (wM (fG:=⟨fT 0 (L ai),ab⟩) (afm h ai d (aT (f+2))) (λi t H CS M J N OL=>?_) (λt H J=>?_) λP K=>K [] ab (λb l a=>b6 a (va b)) (br _)))))))))))
 ·apply J;intro g ajl u y;rw[uO];obtain⟨z,n⟩:∃z,ai[i]?=O z:=⟨_,eM M⟩;have p:(∀l,z≠.a l)->CS .next (dL (aT (f+2)) (O (.c (aT (L h.l)))) (O (.e i)) ab ab ab ab) (D ((h.C [.h g]).b (ai.map S.u) d [])):= λB=>by
   refine N _ _ λP K=>K g _ (λb l C a=>?_) (j8 y);by_cases e:b=i
   ·subst e;rw[n]at a;replace a:=aY a;subst a;exact b6 aa (B l)
   ·exact u b l ((K0 e).elim (λm=>m) λm=>lK (.lt .a .e) (.lt .e .a) (.lt .a (.b .e .r)) [0,1,1] m C) a
  refine ae4.mpr (ba (bW:=aX.y (ai.map S.u)) uC (IN (Bm n) ?_));induction z using sY with
  |a l=>
   refine afn (pz aa (fj (λOL=>ba (fL:=(D ((h.C [.h g]).b (ai.map S.u) d []))[76]?) (bW:=aX.y (ai.map S.u)) uC (IN (Bm n) (afo (ba (bO mP) (fM (aU (gy (aU y (aU (hy M) A))) ⋯) ?_))))) λa=>by injection a));have:=N (dL (aT (f+2)) (O (.c (aT (L h.l)))) (O (.e i)) ab ab ab ab) (D ((h.C [.h (Internal.bF g l (.e i))]).b (ai.map S.u) d [])) λP K=>K _ _ (λb ajm C a=>?_) (aU Ix (gy y))
   ·rw[<-afp (aZ:=.h g)]at this;exact this
   ·by_cases e:b=i
    ·subst e;rw[n]at a;replace a:=aY a;injection a with a;subst a;exact uA
    ·rw[xm (λajn=>by subst ajn;exact e (afl T a n))];exact u b ajm ((K0 e).elim (λm=>m) λm=>lK (.lt .a .e) (.lt .e .a) (.lt .a (.b .e .r)) [0,1,1] m C) a
  |r e=>exact p λl a=>by injection a
  |c ajm=>exact p λl a=>by injection a
  |bw l=>exact p λl a=>by injection a
  |b e ajm l=>exact p λl a=>by injection a
  |d e ajm=>exact p λl a=>by injection a
 ·apply J;intro g ajl u y;refine bu (afk (q:=q) (d:=d) (G:=hX (ch w) λt H=>a' (aw q (V 22) 9) [GZ] t H (ch w)) (f:=f) (z:=L h.l) E Q R A (((cs.mp I.a).1)) u U W) λn B=>sc (bq (bx.mpr (ae5.mpr (bq (bx.mpr (ae6.mpr ⟨n,?_⟩))))));refine B (h.C [.h g]) 0 _ _ _ _ X Y I.C (fK _) Z mP λo s t e m=>⟨λp=>?_,λp=>K o s e (eg.C.y m)⟩
  ·subst p;exact K o s e (eg.C.y m)
noncomputable abbrev jE (z:j)(v:x)(a b:be):aS:=[O (.c z),O v,a,b]
def IP:bM bK (al q) A 1310 [.c f,aM] c w=a' (aw q A 9) GI (jE f aM ab ab) c (ch w):=()
abbrev ol (a:ac->Q E)(C:aQ):f4:= λaM L c w=>(ei (al a) C 13).c (.s 2) aM L c λL c=>a' (aw a C 8) [GF,GG] L c w
def IQ:aw q A 9 GH (jE f aM M N) c G=kk c aM λd2=>ds (ol q A) d2 d2.a (jE f aM M N) c G:=()
def afr:ol q A cC (jE f aM M N) c G=A 1317 [.c f,cC] c λp c=>bB (!jP p) (G (.c p) (jE f aM (O cC) (O p)) c) (G .next (jE f aM (O cC) (O p)) c):=()
def IR:aw q A 9 tW (jE f aM M N) c G=G (.c .C) (jE f aM M N) c:=()
def afs:bM bK (al q) A 1317 [.c f,.r [.e 10]] c w=w (.e 10) c:=()
def aft:bM bK (al q) A 1317 [.c f,.r [.e 11]] c w=w (.e 11) c:=()
def afu:bM bK (al q) A 1317 [.c f,.r [.e 1,cW d J]] c w=eP (.c f) 79 c λp=>l8 q A p (.e J) c λc=>w .C c:=()
def afv:bM bK (al q) A 1317 [.c f,.r [.e 12,cW d J]] c w=eP (.c f) 79 c λp=>l8 q A p (.e J) c λc=>w (.e 12) c:=()
def afw:bM bK (al q) A 1317 [.c f,.r [.e 3,cx,.e 0]] c w=A 1310 [.c f,cx] c w:=()
def IS:bM bK (al q) A 1317 [.c f,si J d2] c w=A 1303 [.c f,.e J] c λcC c=>dg c cC (.e 1) λcx=>bB cx (A 1317 [.c f,d2] c w) (w .C c):=()
def afx:bM bK (al q) A 1317 [.c f,d7 d J k jD] c w=A 1324 [.c f,d7 d J k jD] c λcC c=>dg c cC (.e 10) λcx=>bB cx (w .C c) (w cC c):=()
noncomputable abbrev l' (z:j)(v:x)(a b:be):aS:=[O (.c z),O v,a,b]
def Bo:bM bK (al q) A 1317 [.c f,j4 J cx] c w=a' (aw q A 9) [zX,zY] (l' f (j4 J cx) (O (.e 5)) ab) c (ch w):=()
abbrev Bp (a:ac->Q E)(C:aQ):aS->Z->fp->Prop:= λL c w=>(ei (al a) C 13).T (.p .Eq (.w 1303 [(.s 0),(.bz (.bz (.bz (.s 1) (.d (.e 1))) (.d (.e 2))) (.d (.e 1)))]) (.d (.e 1))) L c w
abbrev Bq (a:ac->Q E)(C:aQ):aS->Z->bZ->Prop:= λL c w=>a' (aw a C 8) [GJ,GK] L c w
def Br:aw q A 9 zX ax c G=∃ky,nU (Bp q A) (Bq q A) ky ax c G:=()
def Bs:Bp q A (l' f (j4 J cx) M N) c fF=A 1303 [.c f,.e J] c λcC c=>dg c cC (.e 1) λcx=>fF cx c:=()
theorem IT:Bq q A (l' f (j4 J cx) M N) c G=A 1317 [.c f,cx] c λp c=>bB (!jP p) (dg c p (.e 11) λd2=>bB (!d2) (dg c p (.e 10) λd2=>bB d2 (G (.c .C) (l' f (j4 J cx) M (O p)) c) (G (.c p) (l' f (j4 J cx) M (O p)) c)) (G .next (l' f (j4 J cx) M (O p)) c)) (G .next (l' f (j4 J cx) M (O p)) c):=()
def Bt:aw q A 9 zY (l' f aM M N) c G=G (.c .C) (l' f aM M N) c:=()
noncomputable abbrev gx (z:j)(v:x)(a b c d e f:be):aS:=[O (.c z),O v,a,b,c,d,e,f]
def afy:bM bK (al q) A 1324 [.c f,aM] c w=a' (aw q A 9) GT (gx f aM ab ab ab ab ab ab) c (ch w):=()
def afz:aw q A 9 GL (gx f (d7 d J k jD) M N Y ag ah ao) c G=G .next (gx f (d7 d J k jD) (O (.e J)) N Y ag ah ao) c:=()
def afA:aw q A 9 GM (gx f aM (O (.e J)) N Y ag ah ao) c G=eP (.c f) 79 c λp=>l8 q A p (.e J) c λc=>G .next (gx f aM (O (.e J)) N Y ag ah ao) c:=()
def afB:aw q A 9 GN (gx f aM (O (.e J)) N Y ag ah ao) c G=eP (.c f) 85 c λaF=>eP aF 75 c λkw=>ed (al q) kw (.e J) c λp=>G .next (gx f aM (O (.e J)) (O p) Y ag ah ao) c:=()
def afC:aw q A 9 GO (gx f aM M N Y ag ah ao) c G=G .next (gx f aM M N (O (.r [])) ag ah ao) c:=()
abbrev Bu (a:ac->Q E)(C:aQ):f4:= λaM L c w=>(ei (al a) C 13).c (.r [.s 5,.s 6]) aM L c λL c=>a' (aw a C 8) [GQ] L c w
def afD:aw q A 9 GR (gx f (d7 d J k jD) M N Y ag ah ao) c G=ds (Bu q A) ⟨k,ab⟩ k (gx f (d7 d J k jD) M N Y ag ah ao) c G:=()
abbrev xp (a:ac->Q E)(C:aQ):f4:= λaM L c w=>(ei (al a) C 13).c (.s 7) aM L c λL c=>a' (aw a C 7) [GP] L c w
def IU:Bu q A (.r [.r I,cC]) (gx f aM M N Y ag ah ao) c G=ds (xp q A) ⟨I,ab⟩ I (gx f aM M N Y (O (.r I)) (O cC) ao) c λJ L c=>hX G (λL c=>a' (aw q A 8) [] L c G) J L c:=()
theorem afE:xp q A p (gx f (d7 d J k jD) M (O kw) Y ag (O cC) ao) c G=ed (al q) p (.e 0) c λB=>dg c B (.e 2) λd2=>bB d2 (G .next (gx f (d7 d J k jD) M (O kw) (O cC) ag (O cC) (O p)) c) (A 1331 [.c f,kw,p,.e d] c λd2 c=>a7 (li c d2) λd2=>bB d2 (A 1310 [.c f,cC] c λa9 c=>G (.c a9) (gx f (d7 d J k jD) M (O kw) Y ag (O cC) (O p)) c) (G .next (gx f (d7 d J k jD) M (O kw) Y ag (O cC) (O p)) c)):=()
def afF:aw q A 9 GS (gx f aM M N (O cC) ag ah ao) c G=A 1310 [.c f,cC] c λa9 c=>G (.c a9) (gx f aM M N (O cC) ag ah ao) c:=()
def afG:bM bK (al q) A 1331 [.c f,kw,.r [.e 4],.e d] c w=w (.d (jP kw)) c:=()
def IV:bM bK (al q) A 1331 [.c f,.C,.r [.e 1,.f a9],.e d] c w=dg c .C (.f a9) λd2=>w (.d d2) c:=()
def IW:bM bK (al q) A 1331 [.c f,.f ib,.r [.e 1,.f a9],.e d] c w=dg c (.f ib) (.f a9) λd2=>w (.d d2) c:=()
def afH:bM bK (al q) A 1331 [.c f,.r I,.r [.e 1,.f a9],.e d] c w=dg c (.r I) (.f a9) λd2=>w (.d d2) c:=()
def IX:bM bK (al q) A 1331 [.c f,.C,.r [.e 1,.e ky],.e d] c w=w (.d aN) c:=()
def IY:bM bK (al q) A 1331 [.c f,.e o,.r [.e 1,.e ky],.e d] c w=w (.d (an (o=ky))) c:=()
def afI:bM bK (al q) A 1331 [.c f,.f a9,.r [.e 1,.e ky],.e d] c w=a7 (rF (.f a9)) λa=>w (.d (pN a (.int ky))) c:=()
theorem afJ:bM bK (al q) A 1331 [.c f,.r [p,.e B,.e o],.r [.e 1,.e ky],.e d] c w=bB (an (ky< -2147483648)) (bB (an (ky< -2147483648)) (w (.d (an (B=9)&&(an (o=ky)&&af))) c) (w (.d (an (B=7)&&(an (o=ky)&&af))) c)) (bB (an (2147483647<ky)) (w (.d (an (B=9)&&(an (o=ky)&&af))) c) (w (.d (an (B=7)&&(an (o=ky)&&af))) c)):=()
def Bv (g:x)(k F:m):Prop:=(∃i,g=.e i/\F=k)\/(∃s,g=.f s/\F=13)\/(g=.C/\F=0)\/(∃p i,g=.r [p,.e F,i])
theorem afK (a:Bv kw d o):bM bK (al q) A 1331 [.c f,kw,.r [.e 3,.e sq,.e jD,.C],.e d] c w↔bB (an (o=sq)) (w (.d af) c) (w (.d (an (o=sq))) c):=by rcases a with⟨i,rfl,rfl⟩|⟨s,rfl,rfl⟩|⟨rfl,rfl⟩|⟨p,i,rfl⟩<;>exact f3 ()
theorem afL (a:Bv kw d o):bM bK (al q) A 1331 [.c f,kw,.r [.e 3,.e sq,.e jD,cW 1 J],.e d] c w↔bB (an (o=sq)) (A 1303 [.c f,.e J] c λcC c=>dg c cC (.e 1) λd2=>w (.d d2) c) (w (.d (an (o=sq))) c):=by rcases a with⟨i,rfl,rfl⟩|⟨s,rfl,rfl⟩|⟨rfl,rfl⟩|⟨p,i,rfl⟩<;>exact f3 ()
structure gP (a c:bT):Prop where
 C:L a.a<=L c.a
 b:a.r<=c.r
def gP.D:gP a0 a0:=⟨br _,br _⟩
def gP.y (h:gP a0 c7)(k:gP c7 IZ):gP a0 IZ:=⟨aU h.C k.C,aU h.b k.b⟩
theorem gP.bF:gP a0 (a0.bF d):=⟨by show _<=L (a0.a++[d]);rw[a6];exact cZ _ _,br _⟩
theorem gP.W:gP a0 (a0.W d):=⟨by show _<=L (a0.a++[d]);rw[a6];exact cZ _ _,fJ _⟩
def xq:gP a0 (dR k p d cH a0).2:=by
 delta dR;cases iy p d cH with
 |false=>exact .D
 |true=>cases ux cH with
  |none=>exact .D
  |some f=>exact .W
theorem xr:∀{b:n a3}{a:bT},gP a (hc k p d b a).2
 |[],a=>.D
 |l::t,a=>by
  rw[xi];cases(dR k p d l a).1 with
  |true=>exact xq
  |false=>exact xq.y xr
def Bw:∀{a:bT},gP a (iz k p d aB a).2:=by
 induction aB with
 |d c b r _ e=>
  intro a;rw[xj];cases(hc k p d c a).1 with
  |true=>exact xr
  |false=>exact xr.y e
 |_=>intro a;exact .D
def jB.le (h:jB a0 ny c7 cT):gP a0 c7:=by
 induction h using jB.casesOn with
 |a=>exact .D
 |b=>exact .D
 |c f=>exact .bF
theorem eZ.le (h:eZ k aB a0 c7 cT):gP a0 c7:=by
 induction h with
 |l=>exact .D
 |C _ _ a b=>exact a.y b
 |d _ _ a=>exact a
 |p h=>exact h.le
 |o=>exact .bF
 |v _ h=>exact gP.W.y h.le
 |w=>exact .W
 |i=>exact .W
 |q _ _ _ _ a b=>exact gP.W.y (a.y b)
 |u _ _ _ a=>exact gP.W.y a
 | @c d f e p s a0 e cT _ a=>exact gP.bF.y ((Bw (a:=a0.bF f)).y a)
def iP (a:bT):Prop:=L a.a<=90000/\a.r<=90000
def iP.W (h:iP c7)(k:gP a0 c7):iP a0:=⟨aU k.C h.1,aU k.b h.2⟩
theorem afM (S:b4 q V)(J:fX bj)(K:h.e=bj)(v:cK h f ⟨a0,eB⟩ o){l:a3}{M:m}{N:aO}{P:bk}(j:fP B M N l)(z:i9 B P p)(Q:l≠.a)(E:iP a0)
 (b:∀A,cK A f ⟨(dR bj p B l a0).2,eB⟩ o->eg f h A->w (.d (dR bj p B l a0).1) (D (A.b k d I))):V 2 1331 [.c (aT (f+2)),p,l.u,.e B] (D (h.b k d I)) w:=by
 have s:ux l=ab->w (.d (iy p B l)) (D (h.b k d I)):= λR=>by
  have e:dR bj p B l a0=(iy p B l,a0):=by delta dR;rw[R];cases iy p B l<;>rfl
  rw[e]at b;exact b h v .D
 refine S.r ?_;induction l using iD with
 |a=>exact b6 aa Q
 |d=>refine afG.mpr ?_;rw[(by induction p using eh<;>rfl:jP p=iy p B .d)];exact(s aa)
 |gM t=>
  have c:=s aa;have i:=j.2;rcases z with⟨a,rfl|⟨y,rfl,g⟩⟩|⟨a,rfl|⟨y,rfl,g⟩|⟨r,y,F,rfl⟩⟩|⟨a,_⟩|⟨a,_⟩
  ·exact IV.mpr ((g1.b i).C c)
  ·exact IW.mpr ((g1.c g i).C c)
  ·exact IV.mpr ((g1.b i).C c)
  ·exact IW.mpr ((g1.c g i).C c)
  ·exact afH.mpr ((g1.e r y () i).C c)
  ·exact iV (a.elim (λa=>j.1.elim (λb=>b6 (a.symm.trans b) ⋯) λb=>b6 (a.symm.trans b) ⋯) λa=>j.1.elim (λb=>b6 (a.symm.trans b) ⋯) λb=>b6 (a.symm.trans b) ⋯)
  ·rcases j.1 with n|n
   ·exact b6 n a.1
   ·exact b6 n a.2.1
 |c n=>
  have c:=s aa;rcases z with⟨a,_⟩|⟨a,rfl|⟨y,rfl,g⟩|⟨r,y,F,rfl⟩⟩|⟨a,rfl|⟨y,rfl⟩⟩|⟨a,y,rfl,_⟩
  ·exact b6 a j.1
  ·exact IX.mpr c
  ·exact afI.mpr (ba (pG g) c)
  ·refine afJ.mpr ?_;have c:w (.d (an (r=eG n)&&an (y=n))) (D (h.b k d I)):=c;have i:∀C,eG n=C->w (.d (an (r=C)&&(an (y=n)&&af))) (D (h.b k d I)):= λC a=>by rw[a]at c;rw[Bool.and_true];exact c
   delta eG at i;by_cases t:n< -2147483648
   ·rw[dz t];rw[dz (Or.inl t)]at i;exact i 9 aa
   ·rw[cL t];by_cases u:2147483647<n
    ·rw[dz u];rw[dz (Or.inr u)]at i;exact i 9 aa
    ·rw[cL u];rw[cL λb=>b.elim t u]at i;exact i 7 aa
  ·exact IX.mpr c
  ·exact IY.mpr c
  ·exact IY.mpr c
 |b i T t=>
  have u:Bv p B (kindOf p B):=by
   rcases z with⟨a,rfl|⟨y,rfl,g⟩⟩|⟨a,rfl|⟨y,rfl,g⟩|⟨r,y,F,rfl⟩⟩|⟨a,rfl|⟨y,rfl⟩⟩|⟨a,y,rfl,_⟩
   ·exact ey (.inl ⟨aa,aa⟩)
   ·exact .inr (.inl ⟨_,aa,aa⟩)
   ·exact ey (.inl ⟨aa,aa⟩)
   ·exact .inr (.inl ⟨_,aa,aa⟩)
   ·exact mj ⟨_,_,aa⟩
   ·exact ey (.inl ⟨aa,aa⟩)
   ·exact .inl ⟨_,aa,aa⟩
   ·exact .inl ⟨_,aa,aa⟩
  induction t using gA with
  |none=>have c:w (.d (an (kindOf p B=i))) (D (h.b k d I)):=s aa;refine(afK u).mpr (fj (λa=>?_) λa=>c);rw[a]at c;exact c
  |some t=>
   refine(afL u).mpr ?_;delta dR at b;have n:iy p B (.b i T (O t))=an (kindOf p B=i):=aa;rw[n]at b;by_cases e:kindOf p B=i
   ·rw[dz e]at b⊢;refine Bh S v (show L a0.a<100000 by have:=E.1;exact g4 this ⋯) (show a0.r<100000 by have:=E.2;exact g4 this ⋯) λC U W=>?_;have n:=sp J (i:=a0.r);rw[K,n.1];refine(g1.a _ _).C ?_;have b:=b C U W;have b:w (.d (je bj a0.r)) (D (C.b k d I)):=b;rcases n.2 with⟨G,H⟩|⟨G,H⟩<;>rw[G]at b<;>rw[H]<;>exact b
   ·rw[cL e]at b⊢;exact b h v .D
def q0 (i:ac->Q E)(k:j->aQ)(d f:E)(g:m)(a:j)(l:E)(p c:b2)(n:j)(q:E)(s t:bT)(e:dv):Prop:=∀(h:aq)(o:m)(dK r:E)(v:x)(M N:be)(G:bZ),h.e=l->h.W=p->cK h a ⟨s,c⟩ o->
 (∀b M N,cK b a ⟨t,c⟩ o->eg a h b->(e=.bw->ds (ol i (k n)) ⟨dK,ab⟩ r (jE (aT (a+2)) v M N) (D (b.b d g f)) G)/\(e≠.bw->G (.c e.u) (jE (aT (a+2)) v M N) (D (b.b d g f))))->ds (ol i (k n)) ⟨dK,ab⟩ (q++r) (jE (aT (a+2)) v M N) (D (h.b d g f)) G
theorem pI (a:∀(h:aq)(o:m)(Q:bg),h.e=bj->h.W=aI->cK h f ⟨a0,eB⟩ o->(∀b,cK b f ⟨c7,eB⟩ o->eg f h b->Q cT.u (D (b.b k d I)))->V z 1317 [.c (aT (f+2)),p] (D (h.b k d I)) Q):q0 q V k I d f bj aI eB z [p] a0 c7 cT:= λh o dK r w M N G e g i K=>by
 refine afr.mpr (a h o _ e g i λb j l=>?_);have K:=K b (O p) (O cT.u) j l;induction cT using pV with
 |bw=>exact K.1 aa
 |a=>exact K.2 (λa=>by injection a)
 |b=>exact K.2 (λa=>by injection a)
 |c=>exact K.2 (λa=>by injection a)
theorem I0 (S:b4 q V){b:E}{e:dv}(l:q0 q V k I d f bj aI eB z b a0 c7 e){Q:bg}(m:h.e=bj)(n:h.W=aI)(p:cK h f ⟨a0,eB⟩ o)(c:∀a,cK a f ⟨c7,eB⟩ o->eg f h a->Q e.u (D (a.b k d I))):V (z+1) 1310 [.c (aT (f+2)),.r b] (D (h.b k d I)) Q:=by
 refine S.r (IP.mpr (bx.mpr (IQ.mpr ?_)));have:=l h o b [] (.r b) ab ab (hX (ch Q) λL H=>a' (aw q (V z) 9) [tW] L H (ch Q)) m n p λa M N g i=>⟨λj=>?_,λj=>?_⟩
 ·rw[ca]at this;exact this
 ·subst j;exact(bq (bx.mpr (IR.mpr (c a g i))):hX (ch Q) (λL H=>a' (aw q (V z) 9) [tW] L H (ch Q)) .next (jE (aT (f+2)) (.r b) M N) (D (a.b k d I)))
 ·exact c a g i
theorem afN (a:cH≠.a)
 (h:A 1331 [.c f,p,cH.u,.e B] c λb c=>a7 (li c b) λb=>bB b (A 1310 [.c f,U] c λu c=>G (.c u) (gx f (d7 B J nz aF) M (O p) N Y (O U) (O cH.u)) c) (G .next (gx f (d7 B J nz aF) M (O p) N Y (O U) (O cH.u)) c)):
 xp q A cH.u (gx f (d7 B J nz aF) M (O p) N Y (O U) ag) c G:=by
 refine afE.mpr ?_;induction cH using iD<;>first|exact h|exact b6 aa a
def afO (a:cH≠.a):eW cH=false:=by induction cH using iD<;>first|rfl|exact b6 aa a
theorem I1 (S:b4 q V)(K:fX bj){y:x}{L:m}{N:aO}{P:bk}(Q:i9 B P p)(R:2<=aK){w:x}{c:bm×bT}(s:iP c.2):∀{b:n a3}{a0:bT}{h:aq}{Y ao:be},hc bj p B b a0=c->(∀l,l∈b->fP B L N l)->h.e=bj->cK h f ⟨a0,eB⟩ o->
 (∀a Y ao,cK a f ⟨c.2,eB⟩ o->eg f h a->c.1=af->V aK 1310 [.c (aT (f+2)),y] (D (a.b k d I)) λu H=>G (.c u) (gx (aT (f+2)) (d7 B J nz aF) M (O p) Y (O w) (O y) ao) H)->
 (∀a ao,cK a f ⟨c.2,eB⟩ o->eg f h a->c.1=aN->G .next (gx (aT (f+2)) (d7 B J nz aF) M (O p) (match b.any eW with|true=>O y|false=>Y) (O w) (O y) ao) (D (a.b k d I)))->
 ds (xp q (V aK)) ⟨dK,ab⟩ (b.map a3.u) (gx (aT (f+2)) (d7 B J nz aF) M (O p) Y (O w) (O y) ao) (D (h.b k d I)) G:=by
 intro b;induction b with
 |nil=>intro a0 h Y ao e i i t i g;subst e;exact g h ao t .D aa
 |cons l b C=>
  intro a0 h Y ao e E z t A g;have F:= λT U=>E T (dy _ U);by_cases u:l=.a
  ·subst u;refine C (Y:=O y) (ao:=O (.r [.e 2])) e F z t A λa ao i j e=>?_;have:=g a ao i j e;cases c:b.any eW with
   |true=>exact this
   |false=>exact this
  ·rw[xS,afO u]at g;refine afN u (S.c4 R (afM S K z t (E l (db ..)) Q u ?_ λW H v=>?_))
   ·rw[xi]at e;cases r:(dR bj p B l a0).1 with
    |true=>rw[r]at e;rw[<-e]at s;exact(s:iP (dR bj p B l a0).2).W xq
    |false=>rw[r]at e;rw[<-e]at s;exact((s:iP (hc bj p B b (dR bj p B l a0).2).2).W xr).W xq
   ·rw[xi]at e;cases r:(dR bj p B l a0).1 with
    |true=>rw[r]at e;subst e;exact A W _ _ H v aa
    |false=>rw[r]at e;exact C e F (v.W.2.trans z) H (λa Y ao i j=>A a Y ao i (v.y j)) λa ao i j=>g a ao i (v.y j)
theorem afP (S:b4 q V)(K:fX bj){R:m}{T:aO}{U:bk}(L:i9 B U p)(N:2<=aK){g:Q aW×bT}(w:iP g.2){x:aW}(W:x.L):∀(a0:bT)(h:aq)(i:aW)(ag ah ao:be),iz bj p B x a0=g->(∀l,l∈x.D->fP B R T l)->h.e=bj->cK h f ⟨a0,eB⟩ o->
 (∀a Y ag ah ao b,cK a f ⟨g.2,eB⟩ o->eg f h a->g.1=O b->V aK 1310 [.c (aT (f+2)),.r b.u] (D (a.b k d I)) λu H=>G (.c u) (gx (aT (f+2)) (d7 B J nz aF) M (O p) Y ag ah ao) H)->
 (∀a ag ah ao,cK a f ⟨g.2,eB⟩ o->eg f h a->g.1=ab->G .next (gx (aT (f+2)) (d7 B J nz aF) M (O p) (O (.r (od x i).u)) ag ah ao) (D (a.b k d I)))->
 ds (Bu q (V aK)) ⟨dK,ab⟩ x.u (gx (aT (f+2)) (d7 B J nz aF) M (O p) (O (.r i.u)) ag ah ao) (D (h.b k d I)) G:=by
 refine aW.aN W ?_ λj b r _ X=>?_
 ·intro a0 h i ag ah ao e y y t y z;subst e;exact z h ag ah ao t .D aa
 ·intro a0 h i ag ah ao e A C t H z;rw[xj]at e;cases u:(hc bj p B j a0).1 with
  |true=>rw[u]at e;subst e;refine IU.mpr (I1 S K L N w aa (λl n=>A l (hN _ n)) C t (λv Y ao s c e=>H v _ _ _ _ b s c aa) λv ao s c e=>by rw[u]at e;injection e)
  |false=>
   rw[u]at e;have Z:iP (hc bj p B j a0).2:=by rw[<-e]at w;exact w.W Bw
   refine IU.mpr (I1 S K L N Z aa (λl n=>A l (hN _ n)) C t (λv Y ao s c e=>by rw[u]at e;injection e) λv ao s c y=>?_);have:=X _ _ (match j.any eW with|true=>b|false=>i) (O (.r (j.map a3.u))) (O (.r b.u)) ao e (λl n=>A l (gC _ n)) (c.W.2.trans C) s (λa Y ag ah ao P E F=>H a Y ag ah ao P E (c.y F)) λa ag ah ao E F=>z a ag ah ao E (c.y F);cases P:j.any eW with
   |true=>rw[P]at this;exact this
   |false=>rw[P]at this;exact this
def afQ (e:c[f]?=O aZ) (a:gi p aZ cS):ed (al q) (.c f) p c cS:=ba e a
def afR (e:bH aI d=O p)(q:cS p):gi (.e d) (.h aI) cS:=ba e q
theorem afS (S:b4 q V)(w:fX bj){y:aO}{c:aW}{e:dv}(A:aK=z+1)(C:2<=aK)(j:qH B aF p y c)(E:bH aI J=O p)(F:iP c7)(G:gP (iz bj p B c (a0.bF J)).2 c7)(H:q0 q V k I d f bj aI eB z (l9 bj p B c (a0.bF J)).u (iz bj p B c (a0.bF J)).2 c7 e)
 {Q:bg}(n:h.e=bj)(r:h.W=aI)(l:cK h f ⟨a0,eB⟩ o)(K:∀a,cK a f ⟨c7,eB⟩ o->eg f h a->Q e.u (D (a.b k d I))):V (aK+1) 1324 [.c (aT (f+2)),d7 B J c.u aF] (D (h.b k d I)) Q:=by
 have s:iP (iz bj p B c (a0.bF J)).2:=F.W G;have t:L a0.a<100000:=by have:=(s.W (gP.bF.y (Bw (a:=a0.bF J)))).1;exact g4 this ⋯
 have u:=l.i (b:=J) t;refine S.r (afy.mpr (bx.mpr (afz.mpr (bq (bx.mpr (afA.mpr (gw (p:=.c (aT f)) (bO l.a) aa (nx l.d t (bq (bx.mpr (afB.mpr (gw (p:=.c 18) (bO u.a) aa (gw (p:=.c 17) (f:=18) aa aa (afQ (by rw[<-r];rfl:(D ((h.X f (.y ((a0.a++[J]).map x.e))).b k d I))[17]?=some (.h aI)) (afR E (bq (bx.mpr (afC.mpr (bq (bx.mpr (afD.mpr ?_)))))))))))))))))))));have m:eg f h (h.X f (.y ((a0.a++[J]).map x.e))):=.X (br _) (pS ⋯);have v:∀(b:aW),l9 bj p B c (a0.bF J)=b->∀a,cK a f ⟨(iz bj p B c (a0.bF J)).2,eB⟩ o->eg f (h.X f (.y ((a0.a++[J]).map x.e))) a->V aK 1310 [.c (aT (f+2)),.r b.u] (D (a.b k d I)) Q:= λb M a i g=>by
  subst A;refine I0 (h:=a) S (M▸H) ?_ ?_ i λN P R=>K N P (m.y (g.y R))
  ·rw[(m.y g).W.2,n]
  ·rw[(m.y g).W.1,r]
 exact afP S w j.W C s j.ep _ (h.X f (.y ((a0.a++[J]).map x.e))) .l _ _ _ aa j.D n u (λa Y ag ah ao b i g e=>v b (by unfold l9;rw[e]) a i g) λa ag ah ao i g e=>bq (bx.mpr (afF.mpr (v _ (by unfold l9;rw[e]) a i g)))
theorem Bx:aB.K aI aj bs->aB.L->aB.i<=f->uz (λb=>b.K aI aj bs/\b.i<=f) aB:=by
 induction aB with
 |l=>intro a a a;trivial
 |d g b r _ e=>intro w c d;exact⟨⟨w.1.1,aU (kF _ _) d⟩,e w.2 c (aU (mh _ _) d)⟩
 |_=>intro a c;exact c.elim
theorem aW.aP (x:aW):1<=x.i:=by
 induction x with
 |C a b e _=>exact aU e (kF _ _)
 |d e b r a _=>exact aU a (kF _ _)
 |h f b a=>exact aU a (cZ _ _)
 |c k f e g s a=>exact aU a (cZ _ _)
 |_=>exact br _
def xs (l:ac->Q E)(n:j->aQ)(h i:E)(k:m)(a:j)(p:E)(q c:b2)(o:j)(f:m)(b:x)(r u:bT)(e:dv):Prop:=∃v,∀(s:aq)(t:m)(d:be)(R:bZ),s.e=p->s.W=q->cK s a ⟨r,c⟩ t->
 (∀g d,cK g a ⟨u,c⟩ t->eg a s g->(e=.bw->R .next (l' (aT (a+2)) (j4 f b) (O (.e 5)) d) (D (g.b h k i)))/\R (.c e.u) (l' (aT (a+2)) (j4 f b) (O (.e 5)) d) (D (g.b h k i)))->nU (Bp l (n o)) (Bq l (n o)) v (l' (aT (a+2)) (j4 f b) (O (.e 5)) d) (D (s.b h k i)) R
theorem uD (S:b4 q V)(j:fX bj){s:aq}{t g:m}(l:1<=z)(a:s.e=bj)(n:cK s f ⟨a0,eB⟩ t)(h:iP a0){K:fp}(c:∀e,cK e f ⟨a0.W g,eB⟩ t->eg f s e->K (je bj a0.r) (D (e.b k d I))):V z 1303 [.c (aT (f+2)),.e g] (D (s.b k d I)) λy H=>dg H y (.e 1) λb=>K b H:=by refine S.c4 l (Bh S n (show L a0.a<100000 by have:=h.1;exact g4 this ⋯) (show a0.r<100000 by have:=h.2;exact g4 this ⋯) λo p r=>?_);have b:=sp j (i:=a0.r);rw[a,b.1];refine(g1.a _ _).C ?_;have c:=c o p r;rcases b.2 with⟨a,i⟩|⟨a,i⟩<;>rw[a]at c<;>rw[i]<;>exact c
theorem I2 (S:b4 q V){t:e8}{e:dv}(h:jB a0 t c7 e)(j:iP c7)(l:1<=z){s:aq}{u:m}{Q:bg}(a:cK s f ⟨a0,eB⟩ u)(b:∀g,cK g f ⟨c7,eB⟩ u->eg f s g->Q e.u (D (g.b k d I))):V z 1317 [.c (aT (f+2)),t.u] (D (s.b k d I)) Q:=by
 refine S.c4 l (S.r (f:=0) ?_);induction h using jB.casesOn with
 |a=>exact afs.mpr (b s a .D)
 |b=>exact aft.mpr (b s a .D)
 |c n=>
  have i:L a0.a<100000:=by have:=(j.W (gP.bF (d:=n))).1;exact g4 this ⋯
  exact afv.mpr (gw (p:=.c (aT f)) (bO a.a) aa (nx a.d i (b _ (a.i i) (.X (br _) (pS ⋯)))))
theorem I3 (S:b4 q V){b:E}{e:dv}(h:q0 q V k I d f bj aI eB z b a0 c7 e){s:aq}{t:m}{Q:bg}(c:s.e=bj)(g:s.W=aI)(i:cK s f ⟨a0,eB⟩ t)(j:∀a,cK a f ⟨c7,eB⟩ t->eg f s a->Q e.u (D (a.b k d I))):V (z+2) 1317 [.c (aT (f+2)),.r [.e 3,.r b,.e 0]] (D (s.b k d I)) Q:=
 S.r (afw.mpr (I0 S h c g i j))
def afT (a:ac->Q E)(D:j->aQ)(d g:E)(h:m)(i:j)(k:E)(l:b2)(c:b2)(n:j)(o p:bT)(e:dv)(x:aW):Prop:=match x with
 |.h f b=>xs a D d g h i k l c (n+2) f (.r [.e 3,.r b.u,.e 0]) o p e
 |_=>fZ
def afU (d:ac->Q E)(D:j->aQ)(f g:E)(h:m)(i:j)(k:E)(a:b2)(c:b2)(n:aO)(x:aW)(l b:bT)(e:dv):Prop:=
 ∀(o:bm)(z:j),x.K a n o->x.i+1<=z->iP b->q0 d D f g h i k a c (z+3) x.u l b e/\afT d D f g h i k a c z l b e x
def I4 (h:max f z+1<=aK):f+1<=aK/\z+1<=aK:=
 ⟨aU (gy (kF f z)) h,aU (gy (mh f z)) h⟩
def r9 (h:f+3+1<=z):∃a,z=a+3/\f+1<=a:=
 (Nat.le.dest h).elim λk e=>⟨f+1+k,by rw[<-e];exact m7 (.b (.b (.b .a .L) .r) .e) (.b (.b (.b .a .r) .e) .L),cZ _ _⟩
theorem afV (S:b4 q V)(CS:fX bj){ajx:aO}{x:aW}{e:dv}(h:eZ bj x a0 c7 e):afU q V k I d f bj aI eB ajx x a0 c7 e:=by
 induction h with
 |l=>exactλB z ajq ajq ajq=>⟨λs t ajm r v E p R i o j K=>(K s E p j .D).1 aa,bY⟩
 | @C a b a0 OL ajv e h X M ajs=>intro B z w A n;have i:=I4 A;have ajl:=(M B z w.1 i.1 (n.W X.le)).1;have g:=(ajs B z w.2 i.2 n).1;refine⟨λs t ajm r v E p R i o j K=>?_,bY⟩;rw[bU];exact ajl s t ajm (b.u++r) v E p R i o j λG E p C y=>⟨λajq=>(g G t ajm r v E p R (by rw[y.W.2,i]) (by rw[y.W.1,o]) C λN E p P T=>K N E p P (y.y T)),λh=>b6 aa h⟩
 | @d a b a0 OL e h ajn M=>intro B z w A n;have i:=I4 A;have ajl:=(M B z w.1 i.1 n).1;refine⟨λs t ajm r v E p R i o j K=>?_,bY⟩;rw[bU];exact ajl s t ajm (b.u++r) v E p R i o j λG E p C y=>⟨λh=>b6 h ajn,(K G E p C y).2⟩
 |p h=>intro B z w A n;exact⟨pI λs t Q i o j m=>I2 S h n (ev 1 _) j m,bY⟩
 | @o X D a0=>
   intro B z w A n;refine⟨pI λs t Q i o j m=>S.c4 (ev 1 _) (S.r (f:=0) ?_),bY⟩;have g:L a0.a<100000:=by have:=(n.W (gP.bF (d:=D))).1;exact g4 this ⋯
   exact afu.mpr (gw (p:=.c (aT f)) (bO j.a) aa (nx j.d g (m _ (j.i g) (.X (br _) (pS ⋯)))))
 | @v D u a0 OL e U h=>intro B z w A n;refine⟨pI λs t Q i o j m=>S.r (IS.mpr (uD S CS (ev 1 _) i j (n.W (gP.W.y h.le)) λG C y=>?_)),bY⟩;rw[U];exact I2 S h n (ev 1 _) C λN P T=>m N P (y.y T)
 | @w D u a0 U=>intro B z w A n;refine⟨pI λs t Q i o j m=>S.r (IS.mpr (uD S CS (ev 1 _) i j (n.W .W) λG C y=>?_)),bY⟩;rw[U];exact m G C y
 | @i D b a0 U=>intro B z w A n;have W:xs q V k I d f bj aI eB (z+2) D (.r [.e 3,.r b.u,.e 0]) a0 (a0.W D) .bw:=⟨1,λs t p R i o j K=>Bs.mpr (uD S CS (ev 1 _) i j (n.W .W) λG C y=>by rw[U];exact(K G p C y).1 aa)⟩;exact⟨pI λs t Q i o j m=>bu W λY W=>S.r (Bo.mpr (bx.mpr (Br.mpr ⟨Y,W s t _ _ i o j λF p H J=>⟨λajq=>bq (bx.mpr (Bt.mpr (m F H J))),m F H J⟩⟩))),W⟩
 | @q D b a0 OL ajv ajr ajy U h ajn X M ajs=>
   intro B z w A n;refine aL (r9 A) λZ ajo ajp=>bu (ajs B z w A n).2 λY ajw=>?_;rw[ajo]at ajw⊢;have W:xs q V k I d f bj aI eB (Z+3+2) D (.r [.e 3,.r b.u,.e 0]) a0 ajv ajy:=⟨Y+1,λs t p R i o j K=>Bs.mpr (uD S CS (ev 1 _) i j (n.W (gP.W.y (h.le.y X.le))) λG C y=>by rw[U];refine IT.mpr (I3 S ((M af Z w.1 ajp (n.W X.le)).1) (by rw[y.W.2,i]) (by rw[y.W.1,o]) C λN P T=>?_);have g:=y.y T;have ajt:=ajw N t (O ajr.u) R (by rw[g.W.2,i]) (by rw[g.W.1,o]) P λF p H J=>K F p H (g.y J);rcases ajn with rfl|rfl<;>exact ajt)⟩
   exact⟨pI λs t Q i o j m=>by refine bu W λY W=>S.r (Bo.mpr (bx.mpr (Br.mpr ⟨Y,W s t _ _ i o j λF p H J=>⟨λaju=>bq (bx.mpr (Bt.mpr ?_)),m F H J⟩⟩)));subst aju;exact m F H J,W⟩
 | @u D b a0 OL ajr U h ajn M=>
   intro B z w A n;refine aL (r9 A) λZ ajo ajp=>?_;rw[ajo];have W:xs q V k I d f bj aI eB (Z+3+2) D (.r [.e 3,.r b.u,.e 0]) a0 OL (uy ajr):=⟨1,λs t p R i o j K=>Bs.mpr (uD S CS (ev 1 _) i j (n.W (gP.W.y h.le)) λG C y=>by rw[U];refine IT.mpr (I3 S ((M af Z w.1 ajp n).1) (by rw[y.W.2,i]) (by rw[y.W.1,o]) C λN P T=>?_);have ajt:=(K N (O ajr.u) P (y.y T)).2;rcases ajn with rfl|rfl<;>exact ajt)⟩
   exact⟨pI λs t Q i o j m=>by refine bu W λY W=>S.r (Bo.mpr (bx.mpr (Br.mpr ⟨Y,W s t _ _ i o j λF p H J=>⟨λaju=>bq (bx.mpr (Bt.mpr ?_)),m F H J⟩⟩)));have m:=m F H J;rw[aju]at m;exact m,W⟩
 | @c X D ajy g s a0 OL e h M=>
   intro B z w A n;have ajw:=xk (k:=bj) (p:=g) (d:=X) (a0:=a0.bF D) (Bx w.2.2 w.1.ep (br _)) ⟨bY,s.aP⟩;refine aL (r9 A) λZ ajo ajp=>?_;have ajl:=(M B Z ajw.1 (aU (gy ajw.2) ajp) n).1;rw[<-ajo]at ajl;refine⟨pI λF t Q i o j m=>S.r (afx.mpr (afS (z:=z) (aK:=z+1) (c:=s) S CS aa (ck (.le .W (.b .a .r)) (.le (.b .e .r) .a) A) w.1 w.2.1 n h.le ajl i o j λN P T=>?_)),bY⟩;have m:=m N P T;induction e using pV with
   |bw=>exact m
   |a=>exact m
   |b=>exact m
   |c=>exact m
def h2 (a:n S)(p:j)(c:n S):Prop:=∀(i:j)(x:S),c[i]?=O x->a[p+i]?=O x
def h2.left (h:h2 ai f (dY++xt)):h2 ai f dY:= λi x e=>h i x (by rw[ek (cs.mp e).1];exact e)
def h2.right (h:h2 ai f (dY++xt)):h2 ai (f+L dY) xt:= λi x e=>by rw[ka];exact h _ x (by rw[hh (cZ _ _),ox];exact e)
def h2.C (h:h2 ai f (eX::dY)):ai[f]?=O eX:=h 0 eX aa
theorem h2.a (h:h2 ai f (eX::dY)):h2 ai (f+1) dY:= λi y e=>by rw[show f+1+i=f+(i+1) by exact m7 (.b (.b .a .r) .e) (.b .a (.b .e .r))];exact h (i+1) y e
def uE (h:ai[f]?=O (.bw d)) (a:ai[z]?=O (.a d)) (b:0<=d)(c:f<z):oh k aI ai f az z az:=⟨.bw h a b,br _,.inl c⟩
def kW (h:ai[f]?=O (.a d)):oh k aI ai f az (f+1) az:=⟨.a h,br _,.inl (hi _)⟩
def afW (h:ai[f]?=O (.r (.K d o))):oh k aI ai f az (f+1) (az.bF o):=⟨.r h aa,br _,.inl (hi _)⟩
def lx (c:E)(d:b2)(a:n S)(p:j)(f:bQ)(e:dv)(q h i:j)(k:bT):Prop:=∃b,b.c=k/\(match e with
 |.bw=>dS c d a p f q b
 |.a=>dS c d a p f h b
 |.b=>dS c d a p f i b
 |.c=>∃r g,dS c d a p f r g/\oi a r g (.e 12) b)
theorem lx.l (h:dS k aI ai f az z gf)(e:lx k aI ai z gf cT aK bf el a0):lx k aI ai f az cT aK bf el a0:=by
 refine aL e λg i d=>⟨g,i,?_⟩;induction cT using pV with
 |bw=>exact h.y d
 |a=>exact h.y d
 |b=>exact h.y d
 |c=>exact gq d λr l a b=>⟨r,l,h.y a,b⟩
structure I5 (ai:n S)(b:m×m)(e:dv)(c f g:j):Prop where
 a:e=.a->ai[f]?=O (.a b.1)/\0<=b.1/\c<=f
 d:e=.b->ai[g]?=O (.a b.2)/\0<=b.2/\c<=g
theorem I6 (h:jB a0 ny c7 cT){l:m×m}{p n o q:j}{e:bQ}(g:e.c=a0) (i:ai[p]?=O (j3 l ny)) (T:I5 ai l cT (p+1) n o):lx k aI ai p e cT q n o c7:=by
 induction h using jB.casesOn with
 |a=>exact c9 (T.a aa) λa b d=>⟨e,g,.ew (uE i a b d)⟩
 |b=>exact c9 (T.d aa) λa b d=>⟨e,g,.ew (uE i a b d)⟩
 |c f=>exact⟨e.bF f,by rw[<-g];rfl,p,e,.D,.c i⟩
theorem By (g:fX k) (h:ai[f]?=O (.b (.K 1 d) o B)) (c:je k az.c.r=an (o=1))(l:o=0\/o=1) (n:ai[z]?=O (.a B)) (p:0<=B)(q:f<z\/o=1):oh k aI ai f az z (az.W d):=by
 have i:=(sp g (i:=az.c.r)).2;have e:qY k az.c.r=o:=by
  rcases l with rfl|rfl
  ·rcases i with⟨a,b⟩|⟨a,b⟩
   ·rw[a]at c;injection c
   ·exact b
  ·rcases i with⟨a,b⟩|⟨a,b⟩
   ·exact b
   ·rw[a]at c;injection c
 refine⟨.b h (e▸.K) n p,fJ _,q.imp id λa=>⟨?_,hi _⟩⟩;subst a;refine Nat.lt_of_not_le λb=>?_;rw[Iu g b]at c;injection c
theorem I7 (i:fX k) (h:ai[f]?=O (.b (.K 1 d) o B)) (c:je k az.c.r=!an (o=1))(l:o=0\/o=1):oh k aI ai f az (f+1) (az.W d):=by
 have g:=(sp i (i:=az.c.r)).2;have e:qY k az.c.r≠o:=by
  rcases l with rfl|rfl
  ·rcases g with⟨a,b⟩|⟨a,b⟩
   ·rw[b];decide
   ·rw[a]at c;injection c
  ·rcases g with⟨a,b⟩|⟨a,b⟩
   ·rw[a]at c;injection c
   ·rw[b];decide
 exact⟨.c h .K e,fJ _,.inl (hi _)⟩
def iQ (b:E)(g:x)(k:m)(c:n (a3×m))(a:bT):Q m×bT:=c.rec (motive:= λd=>bT->Q m×bT) (λa=>(ab,a)) (λr d f a=>match(dR b g k r.1 a).1 with|true=>(O r.2,(dR b g k r.1 a).2)|false=>f (dR b g k r.1 a).2) a
def pJ (c:E)(d:b2)(b:n S)(p:j)(e:bQ)(f:j)(v:m)(g:x)(r:Q m×bT):Prop:=∃a,a.c=r.2/\bH a.d v=O g/\(match r.1 with
 |some l=>∀q,b[q]?=O (.a l)->f<=q->dS c d b p e q a
 |none=>dS c d b p e f a)
theorem pJ.l (h:dS k aI ai f az z gf)(d:pJ k aI ai z gf aK o p q1):pJ k aI ai f az aK o p q1:=by
 refine dU d λe g i c=>⟨e,g,i,?_⟩;obtain⟨n,l⟩:=q1;induction n using gA with
 |none=>exact h.y c
 |some l=>exactλq a b=>h.y (c q a b)
def ajj:iA bs=1↔bs=true:=by induction bs using fD<;>decide
def afX:a0.r<=(dR k p d cH a0).2.r:=Bg
theorem I8 (E:fX k)(F:hW d){u:aO}{G:bk}(H:i9 d G p)(I:0<o):∀{g:n (a3×m)}{b c:j}{a:bQ},h2 ai c (iw d o b g)->bH a.d o=O p->o<=b->L u<=b->(∀r,r∈g->fP d o u r.1/\r.1≠.a/\0<=r.2)->
 pJ k aI ai c a (c+L (iw d o b g)) o p (iQ k p d g a.c):=by
 intro g;induction g with
 |nil=>intro b c a e v e e e;exact⟨a,aa,v,.D⟩
 |cons r t J=>
  intro b c a y v z A B;refine c9 (B r (db ..)) λl K M=>?_;obtain⟨C,s,w,D⟩:=ae0 (aI:=aI) (o:=(b:m)+1) E F l H v K (gp [_] [_] (.b (.Eq (.b (.d .a) .r) .a)) (.a .a (.d .a)) z) (λf f f e=>by
   have l:fP d o u r.1:=l;rw[e]at l;rcases l.2 with h|⟨⟨i,h,q⟩,_⟩
   ·exact gp [_] [_] (.b (.Eq (.b (.d .a) .r) .a)) (.Eq .a .K) h
   ·have:=(cs.mp q).1;exact hB [_,_,_] [_] (.b (.Eq (.b (.d .a) .r) .a)) (.le .e .a) (.Eq .a (.b (.d .l) .r)) (.lt .l .e) A h this) (hO (.b (.Eq .a .K)) (.Lt .K .a) I)
  have f:=y.C;have h:a.c.r<=C.c.r:=by rw[w];exact afX
  rw[(show iQ k p d (r::t) a.c=(match(dR k p d r.1 a.c).1 with|true=>(O r.2,(dR k p d r.1 a.c).2)|false=>iQ k p d t (dR k p d r.1 a.c).2)from aa)];have i:c+L (iw d o b (r::t))=c+1+L (iw d o (b+L (j0 (ii d r.1))) t):=(m7 (.b .a (.b .e .r)) (.b (.b .a .r) .e):c+(L (iw d o _ t)+1)=_);rw[i];cases e:(dR k p d r.1 a.c).1 with
  |true=>rw[e]at s;refine⟨C,w,D,λq x N=>.ew ⟨.b f s x M,h,.inl (ex (.lt .a .e) (.le (.b (.b .a .r) .l) .e) N)⟩⟩
  |false=>rw[e]at s;refine pJ.l (.ew ⟨.c f s ⋯,h,.inl (hi _)⟩) ?_;rw[<-w];exact J y.a D (gp [_,_] [_] (.a .a (.d (.b .a .e))) (.a .a (.d .a)) z) (ex (.le .a (.b .e .l)) (.le .a .e) A) λx q=>B x (dy _ q)
class inductive om:aW->m->m->aW->Prop
 |here {c:n a3}{b r:aW}{a:m}:om (.d c b r) a a b
 |a {c:n a3}{b r:aW}{a d:m}{e:aW}(h:om r (a+1) d e):om (.d c b r) a d e
def I9 (x:aW)(c:m)(p:Q aW×bT)(q:Q m×bT):Prop:=p.2=q.2/\(match p.1 with|some b=>∃a,q.1=O a/\om x c a b|none=>q.1=ab)
theorem afY:iQ k p d (fk++xu) a0=(match(iQ k p d fk a0).1 with|some l=>(O l,(iQ k p d fk a0).2)|none=>iQ k p d xu (iQ k p d fk a0).2):=by
 induction fk generalizing a0 with
 |nil=>rfl
 |cons r t a=>
  refine(?_:(match(dR k p d r.1 a0).1 with|true=>_|false=>iQ k p d (t++xu) _:Q m×bT)=(match(match(dR k p d r.1 a0).1 with|true=>_|false=>_:Q m×bT).1 with|some l=>(O l,(match(dR k p d r.1 a0).1 with|true=>_|false=>_:Q m×bT).2)|none=>iQ k p d xu (match(dR k p d r.1 a0).1 with|true=>_|false=>_:Q m×bT).2));cases(dR k p d r.1 a0).1 with
  |true=>rfl
  |false=>exact a
theorem afZ:∀{b:n a3}{a:bT},iQ k p d (l4 b o) a=(match(hc k p d b a).1 with|true=>O o|false=>ab,(hc k p d b a).2):=by
 intro b;induction b with
 |nil=>exactλ{a}=>aa
 |cons l t c=>
  intro a;by_cases e:eW l=af
  ·have:l=.a:=by induction l using iD<;>first|rfl|injection e
   subst this;exact c
  ·rw[HK (by cases h:eW l<;>first|rfl|exact b6 h e:eW l=false)];refine(?_:(match(dR k p d l a).1 with|true=>_|false=>iQ k p d (l4 t o) _:Q m×bT)=(match(match(dR k p d l a).1 with|true=>_|false=>_:bm×bT).1 with|true=>O o|false=>ab,(match(dR k p d l a).1 with|true=>_|false=>_:bm×bT).2));cases(dR k p d l a).1 with
   |true=>rfl
   |false=>exact c
theorem af0:∀{f:m}{c:bT},aB.L->I9 aB f (iz k p d aB c) (iQ k p d (fW aB f) c):=by
 induction aB with
 |l=>intro f c a;exact⟨aa,aa⟩
 |d g b r _ i=>
  intro f c h;refine(?_:I9 _ _ (match(hc k p d g c).1 with|true=>_|false=>_) (iQ k p d (l4 g f++fW r (f+1)) c));rw[afY,afZ];cases e:(hc k p d g c).1 with
  |true=>exact⟨aa,f,aa,.here⟩
  |false=>
   refine bd (i (f:=f+1) (c:=(hc k p d g c).2) h) λj n=>⟨j,?_⟩;revert n;refine(?_:(match(iz k p d r (hc k p d g c).2).1 with|some b=>_|none=>_)->(match(iz k p d r (hc k p d g c).2).1 with|some b=>_|none=>_));cases(iz k p d r (hc k p d g c).2).1 with
   |none=>exact id
   |some e=>exactλ⟨o,a,b⟩=>⟨o,a,.a b⟩
 |_=>intro f c h;exact h.elim
theorem I':∀{a d:m}{c:aW},aB.L->(ft aB a d=d/\od aB c=c)\/om aB a (ft aB a d) (od aB c):=by
 induction aB with
 |l=>intro a d c b;exact .inl ⟨aa,aa⟩
 |d e b r _ g=>
  intro a d c f;refine(?_:(ft r (a+1) (match e.any eW with|true=>a|false=>d)=d/\od r (match e.any eW with|true=>b|false=>c)=c)\/om (.d e b r) a (ft r (a+1) (match e.any eW with|true=>a|false=>d)) (od r (match e.any eW with|true=>b|false=>c)));cases e.any eW with
  |true=>
   rcases g (a:=a+1) (d:=a) (c:=b) f with⟨i,j⟩|h
   ·refine .inr (?_:om (.d e b r) a (ft r (a+1) a) (od r b));rw[i,j];exact .here
   ·exact .inr (.a h)
  |false=>
   rcases g (a:=a+1) (d:=d) (c:=c) f with h|h
   ·exact .inl h
   ·exact .inr (.a h)
 |_=>intro a d c f;exact f.elim
theorem Ja:∀{n i:j}{x:m},i<n->(gc aj d x n)[i]?=O (ha aj (x+i) d)
 |0,i,x,h=>b6 h (va i)
 |n+1,0,x,_=>by show O (ha aj x d)=O (ha aj (x+0) d);rw[jg]
 |n+1,i+1,x,h=>by rw[Ja (Nat.lt_of_succ_lt_succ h),show x+1+(i:m)=x+((i+1:j):m) by exact mi [_] [_] (.b (.b .a .r) (.d .a)) (.b .a (.d (.b .a .r)))]
theorem Jb (b:bH az.d o=O (.e B)):dw aI (kt d o J) az=O (.e (B-J),az):=by
 have L:dw aI (fd d (.h d o)) az=O (.e B,az):=Bk (pH b);have a:dw aI (iv d o J) az=O (.e (B-J),az):=by
  delta iv;by_cases h:J=0
  ·rw[dz h,h,Int.sub_zero];exact L
  ·rw[cL h];refine(?_:(dw aI (fd d (.h d o)) az).bind _=_);rw[L];rfl
 delta kt;cases iL d with
 |true=>show(dw aI (iv d o J) az).bind _=_;rw[a];rfl
 |false=>exact a
def xv (a:bH az.d o=O (.e B)):dw aI (fd d (.h d o)) az=O (.e B,az):=Bk (pH a)
def Bz (r:aO)(w:m):Prop:=1<L r/\dX r<=w/\w<=fA r
theorem af1 (b:h2 ai f (gO d o J aF jD (gc aj bo J (aF+1-J).toNat)))(c:bH az.d o=O (.e B))(r:0<=jD)(z:J<=aF)(s:aF-J<=100)(l:iL d=aN-> -200<=B-J/\B-J<=200)(A:∀x,0<=ha aj x bo):
 (J<=B/\B<=aF->∀q,ai[q]?=O (.a (ha aj B bo))->f+L (gO d o J aF jD (gc aj bo J (aF+1-J).toNat))<=q->dS k aI ai f az q az)/\(¬(J<=B/\B<=aF)->dS k aI ai f az (f+L (gO d o J aF jD (gc aj bo J (aF+1-J).toNat))) az):=by
 have t:∀x:m,x.fmod 4294967296=x % 4294967296:= λx=>Int.fmod_eq_emod_of_nonneg x ⋯;have T:∀{f:j},ai[f]?=O (.d (kt d o J) (gc aj bo J (aF+1-J).toNat))->J<=B/\B<=aF->∀q,ai[q]?=O (.a (ha aj B bo))->f<q->dS k aI ai f az q az:= λ{f} C a q e D=>by obtain⟨i,g⟩:∃i:j,B-J=i:=nG (go [] [_,_,_] (.a .K (.c .a .e)) (.e (.a .e .a) (.a .a .l)) [1,1,0] a);refine .ew ⟨.d (i:=i) C (Jb c) (by rw[t];exact Lh g (Int.sub_le_sub_right a.2 J) (uQ s ⋯)) ?_ e (A B),br _,.inl D⟩;rw[Ja (gE [_,_] [_,_,_] (.lt .a .e) (.e (.a .a .e) (.a .e .l)) (.Eq (.c .e .a) (.d .a)) (.Eq (.d .e) (.c (.b .l .r) .a)) [1,0,1,-1,-1] a g (lB (g5 [_] [_,_,_] (.a .K (.c (.b .a .r) .e)) (.e (.a .e .l) (.a .l .a)) (.Eq (.c .l .e) (.d .a)) [1,0,1,-1] a g))),show J+(i:m)=B by exact lA (go [_] [_,_] (.a (.b .a (.d .a)) .e) (.Eq (.c .e .a) (.d .a)) [1,-1] g) (gp [_] [_,_] (.a .a (.b .e (.d .a))) (.Eq (.c .a .e) (.d .a)) g)]
 unfold gO at b⊢;cases i:iL d with
 |true=>
  rw[i]at b;have g:=b.C;have u:=b.a.C;have n:=b.a.a.a.C;have E:B<J\/J<=B:=jk [] [_,_] (.K (.Lt .a .e) (.a .e .a));have v:¬B<J->dS k aI ai f az (f+1) az:= λh=>.ew ⟨.c g (.lt (xv c) aa) (by rw[cL h];decide),br _,.inl (hi _)⟩;refine⟨λa q e p=>(v (go [] [_,_,_] (.b (.Lt .a .e)) (.e (.a .e .a) (.a .a .l)) [1,1,0] a)).y (((show¬aF<B->dS k aI ai (f+1) az (f+1+1) az fromλh=>.ew ⟨.c u (.I (xv c) aa) (by rw[cL h];decide),br _,.inl (hi _)⟩) (go [] [_,_,_] (.b (.Lt .a .e)) (.e (.a .l .e) (.a .e .a)) [1,0,1] a)).y (T b.a.a.C a q e (ck (.lt (.b (.b .a .r) .r) .e) (.le (.b .a (.y 4)) .e) p))),λa=>?_⟩
  ·refine(?_:dS k aI ai f az (f+4) az);have w:dS k aI ai (f+1+1+1) az (f+4) az:=.ew (kW n);by_cases h:B<J
   ·have y:=eD.lt (n:=k) (l:=aI) (k:=1) (b:=.p (fQ d) (.e J)) (xv (aI:=aI) (d:=d) c) aa;rw[dz h]at y;exact dS.y (.ew ⟨.b g y n r,br _,.inl (em (.lt .a (.b (.b (.b .a .r) .r) .r)))⟩) w
   ·have y:=eD.I (n:=k) (l:=aI) (k:=1) (b:=.p (fQ d) (.e aF)) (xv (aI:=aI) (d:=d) c) aa;rw[dz (BZ.mp λq=>a ⟨lz.mp h,q⟩:aF<B)]at y;exact(v h).y (dS.y (.ew ⟨.b u y n r,br _,.inl (em (.lt (.b .a .r) (.b (.b (.b .a .r) .r) .r)))⟩) w)
 |false=>rw[i]at b;have g:=b.C;have l:=l i;exact⟨λa q e p=>T g a q e (ck (.lt .a .e) (.le (.b .a .W) .e) p),λa=>.a ⟨.f g (Jb c) (by rw[AM,t];exact Li l z s a),br _,.inl (hi _)⟩ (.ew (kW b.a.C))⟩
def hd (a:aO)(w:m):Q Int:=a.rec ab λp b f=>match an (p.1=w)with|true=>O p.2|false=>f
abbrev q2 (r:aO):Prop:=r.Pairwise λa b=>a.1<b.1
theorem af2 (h:∀p,p∈aj->p.1≠d):hd aj d=none:=by
 induction aj with
 |nil=>rfl
 |cons p t a=>refine(?_:(match an (p.1=d)with|true=>O p.2|false=>hd t d)=ab);rw[cL (h p (db ..))];exact a λq b=>h q (dy _ b)
theorem af3 (h:∀p,p∈dt->p.1≠d):hd (aj++dt) d=hd aj d:=by
 induction aj with
 |nil=>exact af2 h
 |cons p t a=>refine(?_:(match an (p.1=d)with|true=>O p.2|false=>hd (t++dt) d)=(match an (p.1=d)with|true=>O p.2|false=>hd t d));rw[a]
theorem af4 (h:∀p,p∈aj->p.1≠d):hd (aj++dt) d=hd dt d:=by
 induction aj with
 |nil=>rfl
 |cons p t a=>refine(?_:(match an (p.1=d)with|true=>O p.2|false=>hd (t++dt) d)=_);rw[cL (h p (db ..))];exact a λq b=>h q (dy _ b)
theorem af5:ha aj d o=(hd aj d).getD o:=by
 induction aj with
 |nil=>rfl
 |cons p t a=>
  refine(?_:(if p.1=d then p.2 else ha t d o)=(match an (p.1=d)with|true=>O p.2|false=>hd t d).getD o);by_cases h:p.1=d
  ·rw[cP h,dz h];rfl
  ·rw[ce h,cL h];exact a
theorem af6 {f:m×m->bm}(h:∀p,p∈aj->f p=aN->p.1≠d):hd (aj.filter f) d=hd aj d:=by
 induction aj with
 |nil=>rfl
 |cons p t a=>
  have a:=a λq b=>h q (dy _ b);cases e:f p with
  |true=>rw[m3 e];refine(?_:(match an (p.1=d)with|true=>O p.2|false=>hd (t.filter f) d)=(match an (p.1=d)with|true=>O p.2|false=>hd t d));rw[a]
  |false=>rw[rp (by rw[e];exact k3),a];refine(?_:_=(match an (p.1=d)with|true=>O p.2|false=>hd t d));rw[cL (h p (db ..) e)]
theorem Jc:∀{r:aO},q2 r->∀p,p∈r->p.1<=fA r
 |[],_,p,h=>by cases h
 |[a],_,p,h=>by rw[cz.mp h];exact g2 _
 |a::b::t,d,p,h=>by
  have c:=sN.mp d;have a:=Jc (r:=b::t) c.2;rcases fw.mp h with rfl|h
  ·exact jh (mc (c.1 b (db ..))) (a b (db ..))
  ·exact a p h
def Jd (b:q2 aj)(p:m×m)(h:p∈aj):dX aj<=p.1:=by
 induction aj using cv with
 |nil=>cases h
 |cons a t=>
  rcases fw.mp h with rfl|h
  ·exact g2 _
  ·exact mc ((sN.mp b).1 p h)
theorem xw:∀{r:aO},0<L r->∃p,p∈r/\p.1=fA r
 |[a],_=>⟨a,db ..,aa⟩
 |a::b::t,_=>aL (xw (r:=b::t) (vb _)) λp h e=>⟨p,dy _ h,e⟩
def BA (h:0<L aj):∃p,p∈aj/\p.1=dX aj:=by
 induction aj using cv with
 |nil=>cases h
 |cons a t=>exact⟨a,db ..,aa⟩
theorem af7:∀{a:n aO}{r:aO},q2 a.flatten->r∈a->Bz r d->hd a.flatten d=hd r d:=by
 intro a;induction a with
 |nil=>intro r b h b;cases h
 |cons o a l=>
  intro r j h b;rw[Cx]at j⊢;have c:=Cw.mp j;have k:0<L r:=kE K4 b.1;rcases fw.mp h with rfl|h
  ·refine aL (xw k) λp f g=>af3 λq i=>?_;have:=c.2.2 p f q i
   exactλe=>lz.mpr b.2.2 (by rw[<-g,<-e];exact this)
  ·refine aL (BA k) λp f g=>?_
   rewrite [af4 λq i=>?_]
   ·exact l c.2.1 h b
   ·have:=c.2.2 q i p (CB.mpr ⟨r,h,f⟩)
    exactλe=>lz.mpr b.2.1 (by rw[<-g,<-e];exact this)
theorem af8 (Q:bH az.d o=O (.e B))(R:0<=J):∀{i:n aO}{c:m}{p:j},h2 ai p (eC d o J c i)->0<=c->(∀r,r∈i->q2 r/\(∀q,q∈r->0<=q.2)/\(∀a b,a∈r->b∈r->b.1-a.1<=100)/\(iL d=aN->∀a,a∈r-> -200<=B-a.1/\B-a.1<=200))->
 (∃r,r∈i/\Bz r B/\∀q,ai[q]?=O (.a (ha r B J))->p+L (eC d o J c i)<=q->dS k aI ai p az q az)\/(∀r,r∈i->¬Bz r B)/\dS k aI ai p az (p+L (eC d o J c i)) az:=by
 intro i;induction i with
 |nil=>intro c p w w w;exact .inr ⟨λw h=>(by cases h),.D⟩
 |cons r t A=>
  intro c p l s F;rw[(show eC d o J c (r::t)=(match an (1<L r)with|true=>gO d o (dX r) (fA r) (c+1) (gc r J (dX r) (fA r+1-dX r).toNat)++eC d o J (c+1) t|false=>eC d o J c t)from aa)]at l⊢;have G:= λ(c:m)(p:j)(l:h2 ai p (eC d o J c t))(s:0<=c)=>A (c:=c) (p:=p) l s λx f=>F x (dy _ f);by_cases u:1<L r
  ·rw[dz u]at l⊢;refine lL (F r (db ..)) λS U V W=>?_;have H:0<L r:=kE K4 u;refine aL (BA H) λa I K=>aL (xw H) λb M N=>?_;have X:∀x,0<=ha r x J:= λx=>by
    have:∀{r:aO},(∀q,q∈r->0<=q.2)->0<=ha r x J:=by
     intro r;induction r with
     |nil=>intro w;exact R
     |cons p t A=>
      intro h;refine(?_:0<=(if p.1=x then p.2 else ha t x J));by_cases e:p.1=x
      ·rw[cP e];exact h p (db ..)
      ·rw[ce e];exact A λq v=>h q (dy _ v)
    exact this U
   have T:=af1 (k:=k) (aI:=aI) (jD:=c+1) l.left Q (vj s) (by have:=Jd S b M;exact hA [] [_,_,_] (.a .a .e) (.Eq .l .e) (.a .a .l) N this:dX r<=fA r) (by have:=V a b I M;exact gE [] [_,_,_,_] (.a (.c .a .e) (.y 100)) (.Eq .l .e) (.Eq .s .a) (.a (.c .s .l) (.y 100)) [1,1,-1,1] K N this:fA r-dX r<=100) (λg=>K▸W g a I) X;by_cases y:dX r<=B/\B<=fA r
   ·refine .inl ⟨r,db ..,⟨u,y⟩,λq v z=>T.1 y q v ?_⟩;rw[a6]at z;exact aU (iE (cZ _ _) _) z
   ·have P:=T.2 y;rw[a6,<-ka];rcases G (c+1) _ l.right (vj s)with⟨x,f,g,C⟩|⟨D,E⟩
    ·exact .inl ⟨x,dy _ f,g,λq v z=>P.y (C q v z)⟩
    ·exact .inr ⟨λx f g=>(fw.mp f).elim (λe=>y (e▸g.2)) λf=>D x f g,P.y E⟩
  ·rw[cL u]at l⊢;rcases G c p l s with⟨x,f,g,C⟩|⟨D,E⟩
   ·exact .inl ⟨x,dy _ f,g,C⟩
   ·exact .inr ⟨λx f g=>(fw.mp f).elim (λe=>u (e▸g.1)) λf=>D x f g,E⟩
theorem Je:∀{a:aO},iQ k (.e o) d (a.map kS) a0=(hd a o,a0):=by
 intro a;induction a with
 |nil=>rfl
 |cons p t b=>
  have e:dR k (.e o) d (.c p.1) a0=(an (o=p.1),a0):=by refine(?_:(match an (o=p.1)with|false=>(aN,a0)|true=>(af,a0):bm×bT)=_);cases an (o=p.1)<;>rfl
  refine(?_:(match(dR k (.e o) d (.c p.1) a0).1 with|true=>(O p.2,(dR k (.e o) d (.c p.1) a0).2)|false=>iQ k (.e o) d (t.map kS) (dR k (.e o) d (.c p.1) a0).2)=(match an (p.1=o)with|true=>O p.2|false=>hd t o,a0));rw[e];by_cases h:o=p.1
  ·rw[dz h,dz h.symm]
  ·rw[cL h,cL λc=>h c.symm];exact b
def Jf (c:E)(d:b2)(a:n S)(p:j)(e:bQ)(f:j)(g:m)(r:Q m×bT):Prop:=∃b,b.c=r.2/\(match r.1 with
 |some l=>∀q,a[q]?=O (.a l)->f<=q->dS c d a p e q b
 |none=>dS c d a p e f b\/∀q,a[q]?=O (.a g)->f<=q->dS c d a p e q b)
theorem pJ.a (h:pJ k aI ai f az z o p q1):Jf k aI ai f az z B q1:=by
 refine dU h λb c e a=>⟨b,c,?_⟩;obtain⟨d,e⟩:=q1;induction d using gA with
 |none=>exact .inl a
 |some l=>exact a
def af9:hJ [] fk=fk:=by refine aiM.mpr λr a=>?_;obtain⟨l,a⟩:=r;induction l using iD<;>rfl
def Jg:hJ au (aj.map kS)=(aj.filter λp=>!au.contains p.1).map kS:=by delta hJ;rw[List.filter_map];rfl
theorem aga (Y:fX k)(Z:hW d){CS:aO}{J:bk}{v:j}{f:n (a3×m)}{z aju:m}{a:aO}{c:n S}(T:pu d o B v f z aju a c)(K:i9 d J p){i:j}{A:bQ}(C:h2 ai i c)(M:bH A.d o=O p)(OL:0<o)(ajl:o<=v)(ajm:L CS<=v)
 (N:∀r,r∈f->fP d o CS r.1/\r.1≠.a/\0<=r.2)(ajv:0<=B)(ajw:0<=z)(ajn:(fc (f.map (·.1))).Pairwise (·<·))(ajo:∀x y,x∈fc (f.map (·.1))->y∈fc (f.map (·.1))->y-x<=100)(ajp:∀x,x∈fc (f.map (·.1))->x∈J):
 Jf k aI ai i A (i+L c) B (iQ k p d f A.c):=by
 refine ru T.C λD s ajx E ajx F ajy=>?_;subst F;rcases ajy with h|⟨P,b,Q,G⟩
 ·subst h;have E:s=[]:=E;subst E;rw[af9]at C⊢;exact(I8 Y Z K OL C M ajl ajm N).a
 ·have Q:f=b.map kS:=Q;subst Q;rw[w4]at ajn ajo ajp;have ajq:q2 b:=vi.mp ajn;obtain⟨w,rfl,U⟩:∃w:m,p=.e w/\(iL d=aN->∀x,x∈J-> -200<=w-x/\w-x<=200):=by
   rcases K with⟨h,_⟩|⟨h,_⟩|⟨h,_⟩|⟨_,w,h,U⟩
   ·subst h;rcases P with h|h|h|h|h|h|h|h|h<;>cases h
   ·subst h;rcases P with h|h|h|h|h|h|h|h|h<;>cases h
   ·rcases h with rfl|rfl<;>rcases P with h|h|h|h|h|h|h|h|h<;>cases h
   ·refine⟨w,h,λV x t=>U (λe=>?_) x t⟩;rcases e with rfl|rfl|rfl<;>injection V
  rw[Je];have H:∀r,r∈D->∀q,q∈r->q∈b:= λr h q g=>by rw[<-G.X];exact CB.mpr ⟨r,h,g⟩
  have W:∀r,r∈D->q2 r:= λr h=>ajq.sublist (by rw[<-G.X];exact aiF h);have X:∀q,q∈b->q.1∈b.map (·.1):= λq h=>nI h;rcases af8 (k:=k) (aI:=aI) M ajv C.left ajw (λr h=>⟨W r h,λq g=>(N (kS q) (nI (H r h q g))).2.2,λx y t e=>ajo _ _ (X _ (H r h x t)) (X _ (H r h y e)),λV x t=>U V _ (ajp _ (X _ (H r h x t)))⟩)with⟨r,ajz,ajA,u⟩|⟨ajB,ajC⟩
  ·rw[af5,<-(by rw[<-G.X];exact af7 (by rw[G.X];exact ajq) ajz ajA:hd b w=hd r w)]at u;refine⟨A,aa,?_⟩;rw[a6];have R:i+L (eC d o B z D)<=i+(L (eC d o B z D)+L (iw d o v (hJ s (b.map kS)))):=jk [_,_,_] [] (.le (.b .a .e) (.b .a (.b .e .l)));cases e:hd b w with
   |none=>rw[e]at u;exact .inr λq g I=>u q g (aU R I)
   |some l=>rw[e]at u;exactλq g I=>u q g (aU R I)
  ·have ajD:hd (b.filter λi=>!s.contains i.1) w=hd b w:=af6 λq g l e=>by
    have l:q.1∈s:=by
     cases F:s.contains q.1 with
     |false=>rw[F]at l;injection l
     |true=>exact aiN.mp F
    rw[E]at l;refine aL (f2.mp l) λajr ajE ajs=>aL (CB.mp ajE) λr ajF ajt=>?_;have I:=rl.mp ajF;exact ajB r I.1 ⟨dT I.2,by have:=Jd (W r I.1) ajr ajt;exact hB [] [_,_,_,_] (.a .a .e) (.Eq .l .e) (.Eq .s .l) (.a .a .s) e ajs this,by have:=Jc (W r I.1) ajr ajt;exact gE [] [_,_,_,_] (.a .a .e) (.Eq .l .a) (.Eq .s .l) (.a .s .e) [1,-1,-1,1] e ajs this⟩
   have R:=I8 (aI:=aI) Y Z K OL (g:=hJ s (b.map kS)) C.right M ajl ajm λr h=>N r (rl.mp h).1;rw[Jg,Je,ajD]at R;rw[a6,<-ka,Jg];exact(pJ.l ajC R).a
def xx (h:sg eX=af):lr (ai++(dY++[eX]))=true:=by rw[<-bU,AY];exact h
def BB (h:sg xy=af):lr (ai++(dY++[eX,BC,xy]))=true:=by rw[show dY++[eX,BC,xy]=(dY++[eX,BC])++[xy] by rw[bU];rfl];exact xx h
theorem agb (h:eZ k aB a0 c7 cT):cT=.bw->∀{e:m×m}{g f:m}{i:aO}{c:n S}{j:m}{a:aO}{d:n S},fI aB e g f i c j a->lr d=af->lr (d++c)=true:=by
 induction h with
 |l=>intro b e g f i c j a d C h;rw[C.1,ca];exact h
 |C _ _ r s=>intro o e g f i c j a d C h;refine pw C λp x t x u v w q b=>?_;clear C;subst q;rw[<-bU];exact s o w (r aa v h)
 |d _ h _=>intro o;exact b6 o h
 |p h=>intro o;subst o;cases h
 |o=>intro b e g f i c j a d C h;rw[C.1];exact xx (dY:=[]) aa
 |v _ h=>intro o;subst o;cases h
 |w=>intro b e g f i c j a d C h;rw[C.1];exact xx (dY:=[_,_]) aa
 |i=>intro b e g f i c j a d C h;refine aL C ?_;clear C;rintro p b rfl;exact BB aa
 |q=>intro b e g f i c j a d C h;refine aL C ?_;clear C;rintro p b rfl;exact BB aa
 |u=>intro b e g f i c j a d C h;refine aL C ?_;clear C;rintro p b rfl;exact BB aa
 |c=>intro b e g f i c j a d C h;refine sh C λv t r v u s v b b b q b=>?_;clear C;subst q;exact xx (dY:=_::(r++_::s)) (eX:=.a _) aa|> λh=>by simpa using h
def BD (h:pu d o B f fk J aF aj ai):J<=aF:=gq h.C λa a h a=>go [_] [_,_] (.a .a .e) (.Eq .e (.b .a (.d .a))) [1,-1] h
theorem oo:∀{h:m×m}{g d:m}{i:aO}{c:n S}{e:m}{a:aO},fI aB h g d i c e a->d<=e:=by
 induction aB with
 |l=>intro h g d i c e a C;rw[C.2.1];exact g2 _
 |C aB y b f=>intro h g d i c e a C;refine pw C λu z w A x j p o o=>?_;clear C;exact jh (b j) (f p)
 |p t=>intro h g d i c e a C;rw[C.2.1];exact g2 _
 |o k f=>intro h g d i c e a C;rw[C.2.1];exact g2 _
 |W f t=>intro h g d i c e a C;rw[C.2.1];exact k8 (.a .a (.b .a .r))
 |h f b q=>intro h g d i c e a C;refine aL C λu j o=>?_;have:=q j;exact k9 (.a .a .e) (.a (.b .a .L) .e) this
 |c k f r r s q=>intro h g d i c e a C;refine sh C λv w r r x r r o T j o o=>?_;clear C;exact jh (gp [_] [_,_] (.a .a .e) (.a (.b (.b .a .r) (.d .a)) .e) (BD T)) (q j)
 |d r b r s v=>intro h g d i c e a C;refine w7 C λu z w A x j p o o=>?_;clear C;exact jh (s j) (v p)
theorem Jh (h:om aB d o gb):∀{e:m×m}{f:m}{i:aO}{c:n S}{x:m}{a:aO}{p:j},fI aB e d f i c x a->h2 ai p c->
 ∀{G:Prop},(∀q k y b l g,p<=q->d<=o->f<=k->ai[q]?=O (.a o)->h2 ai (q+1) b->fI gb e o k (i++y) b l g->(lr (.a o::b)=af->ai[q+1+L b]?=O (.bw e.1)/\q+1+L b+1<=p+L c)->q+1+L b<=p+L c->G)->G:=by
 induction h with
 | @here F gb r d=>
   intro e f i c x a p C s G K;refine w7 C λb l g H I z B A J=>?_;clear C;subst A;have t:=s.left.left;have u:=s.left.right;refine K p f [] b l g (br _) (g2 _) (g2 _) t.C t.a (by rw[ca];exact z) (λv=>?_) ?_
   ·rw[v]at u⊢;have w:=u.C;rw[hM,show p+(L b+1)=p+1+L b by exact m7 (.b .a (.b .e .r)) (.b (.b .a .r) .e)]at w;refine⟨w,?_⟩;simp only[a6,hM,x9];exact jk [_,_,_] [] (.le (.b (.b (.b .a .r) .e) .r) (.b .a (.b (.b (.b .e .r) (.b .K .r)) .l)))
   ·simp only[a6,hM];exact jk [_,_,_,_] [] (.le (.b (.b .a .r) .e) (.b .a (.b (.b (.b .e .r) .l) .s)))
 | @a F gb r d o V h M=>
   intro e f i c x a p C s G K;refine w7 C λb l g H I z B A J=>?_;clear C;subst A;refine M B s.right λq k y N P Q t u w R T U D E=>K q k (g++y) N P Q (ex (.le .a .e) (.le (.b .a .l) .e) t) (k9 (.a .a .e) (.a (.b .a .r) .e) u) (hA [] [_,_,_] (.a .a .e) (.a .l .e) (.a .a .l) w (oo z)) R T (by rw[<-bU];exact U) (λv=>⟨(D v).1,?_⟩) ?_
   ·have:=(D v).2;simp only[a6]at this⊢;exact gp [_,_,_,_,_,_] [] (.le (.b (.b (.b .a .r) .e) .r) (.b .l (.b (.b .s .X) .ab))) (.le (.b (.b (.b .a .r) .e) .r) (.b (.b .l (.b .s .X)) .ab)) this
   ·simp only[a6]at E⊢;exact gp [_,_,_,_,_,_] [] (.le (.b (.b .a .r) .e) (.b .l (.b (.b .s .X) .ab))) (.le (.b (.b .a .r) .e) (.b (.b .l (.b .s .X)) .ab)) E
theorem BE:∀{a:m}{r:a3×m},aB.L->r∈fW aB a->a<=r.2/\r.1∈aB.D/\eW r.1=false:=by
 induction aB with
 |l=>intro a r b h;cases h
 |d d b t _ e=>
  intro a r c h;have h:r∈l4 d a++fW t (a+1):=h;rcases et.mp h with h|h
  ·refine aL (f2.mp h) ?_;rintro b f rfl;have:=rl.mp f;exact⟨g2 _,hN _ this.1,HR this.2⟩
  ·exact c9 (e c h) λf g i=>⟨k9 (.a .a .e) (.a (.b .a .r) .e) f,gC _ g,i⟩
 |_=>intro a r c;exact c.elim
noncomputable def BF (a:aO):aq:=⟨.b,.b,[],[],0,0,[],[],[],[],a,[]⟩
def uF (o:E)(h:b2)(i:n S)(f:m)(b:aW)(q r:bT)(e:dv):Prop:=∀(v:m×m)(g c:m)(k:aO)(d:n S)(s:m)(a:aO)(p:j)(l:bQ)(t u:j),b.K h (eV k) af->fI b (c+3,c+2) g (c+3) k d s a->h2 i p ([.bw (c+2),.a (c+1)]++d++[.a (c+2),.b (.K 1 f) 1 (c+1),.a (c+3)])->l.c=q->0<=c->
 lx o h i (p+2+L d) l e (p+2+L d+3) t u r
theorem xz (h:h2 ai f ([.bw (o+2),.a (o+1)]++dY++[.a (o+2),.b (.K 1 d) 1 (o+1),.a (o+3)])):ai[f]?=O (.bw (o+2))/\ai[f+1]?=O (.a (o+1))/\h2 ai (f+2) dY/\ai[f+2+L dY]?=O (.a (o+2))/\ai[f+2+L dY+1]?=O (.b (.K 1 d) 1 (o+1))/\ai[f+2+L dY+2]?=O (.a (o+3)):=by have b:=h.left.left;have a:=h.right;rw[show f+L ([S.bw (o+2),.a (o+1)]++dY)=f+2+L dY by rw[a6];show f+(2+L dY)=_;exact m7 (.b .a (.b .W .e)) (.b (.b .a .W) .e)]at a;exact⟨b.C,b.a.C,h.left.right,a.C,a.a.C,a.a.a.C⟩
def Ji (q:E)(d:b2)(b:n S)(x:aW)(r s:bT)(e:dv):Prop:=
 ∀(t:bm)(f:m×m)(g h:m)(i:aO)(c:n S)(u:m)(a:aO)(p:j)(k:bQ)(l o:j),x.K d (eV i) t->fI x f g h i c u a->h2 b p c->k.c=r->0<=h->I5 b f e (p+L c) l o->lx q d b p k e (p+L c) l o s
def agc (a:E)(c:b2)(d:n S)(g h:bT)(e:dv)(x:aW):Prop:=match x with|.h f b=>uF a c d f b g h e|_=>fZ
theorem BG (W:uF k aI ai d aB a0 c7 cT):Ji k aI ai (.h d aB) a0 c7 cT:=by intro c i g b j c l a p o q r w C f s h T;refine aL C ?_;clear C;rintro e t rfl;refine nK (xz f) λu c c v c c=>?_;rw[show p+L ([S.bw (b+2),.a (b+1)]++e++[.a (b+2),.b (.K 1 d) 1 (b+1),.a (b+3)]:n S)=p+2+L e+3 by simp only[a6,hM,x9];exact m7 (.b .a (.b (.b (.b (.b .K .r) .r) .e) (.b (.b (.b .K .r) .r) .r))) (.b (.b (.b .a .W) .e) .L)];exact lx.l (.ew (uE u v (q9 h ⋯) (jl (.lt .a (.b (.b .a .W) .e))))) (W i g b j e l a p o q r w.1 t f s h)
theorem agd (ajo:fX k){x:aW}{F ajE:bT}{e:dv}(h:eZ k x F ajE e):
 Ji k aI ai x F ajE e/\agc k aI ai F ajE e x:=by
 induction h with
 |l=>refine⟨λR G g d A J N a p n K H w C z B o T=>?_,bY⟩;rw[C.1];exact⟨n,B,.D⟩
 | @C x y F OL ajN e h M Y ajF=>refine⟨λR G g d A J N a p n K H w C z B o T=>?_,bY⟩;refine pw C λD ajl V ajO ajt ajy ajP aju u=>?_;clear C;subst aju;refine aL (Y.1 R G g d A D ajl V p n K H w.1 ajy z.left B o ⟨λh=>(by injection h),λh=>(by injection h)⟩) λZ P X=>?_;rw[a6,<-ka]at T⊢;exact lx.l X (ajF.1 R G g ajl (A++V) ajO N ajt _ Z K H (iN w.2) ajP z.right P (by have:=oo ajy;exact hA [] [_,_] (.a .K .a) (.a .K .e) (.a .e .a) o this) T)
 | @d x y F OL e h ajm Y=>
   refine⟨λR G g d A J N a p n K H w C z B o T=>?_,bY⟩;refine pw C λD ajl V ajO ajt ajy ajP aju u=>?_;clear C;subst aju;rw[a6,<-ka]at T⊢;refine aL (Y.1 R G g d A D ajl V p n K H w.1 ajy z.left B o ⟨λh=>(c9 (T.a h) λa b J=>⟨a,b,gp [_,_,_,_] [] (.le (.b .a .e) .l) (.le (.b (.b .a .e) .s) .l) J⟩),λh=>(c9 (T.d h) λa b J=>⟨a,b,gp [_,_,_,_] [] (.le (.b .a .e) .l) (.le (.b (.b .a .e) .s) .l) J⟩)⟩) λZ P X=>?_;refine⟨Z,P,?_⟩;induction e using pV with
   |bw=>exact b6 aa ajm
   |_=>exact X
 |p h=>refine⟨λR G g d A J N a p n K H w C z B o T=>?_,bY⟩;refine c9 C ?_;clear C;rintro rfl u u;exact I6 h B z.C T
 | @o M f F=>refine⟨λR G g d A J N a p n K H w C z B o T=>?_,bY⟩;refine c9 C ?_;clear C;rintro rfl u u;exact⟨n.bF f,by rw[<-B];rfl,.ew (afW z.C)⟩
 | @v f t F OL e U h=>refine⟨λR G g d A J N a p n K H w C z B o T=>?_,bY⟩;refine c9 C ?_;clear C;rintro rfl u u;subst B;exact lx.l (.ew (I7 ajo z.C U (.inl aa))) (I6 h aa z.a.C ⟨λh=>(c9 (T.a h) λa b J=>⟨a,b,aU (by show p+1+1<=p+3;exact em (.le (.b (.b .a .r) .r) (.b .a .L))) J⟩),λh=>(c9 (T.d h) λa b J=>⟨a,b,aU (by show p+1+1<=p+3;exact em (.le (.b (.b .a .r) .r) (.b .a .L))) J⟩)⟩)
 | @w f t F U=>refine⟨λR G g d A J N a p n K H w C z B o T=>?_,bY⟩;refine c9 C ?_;clear C;rintro rfl u u;subst B;exact⟨n.W f,aa,dS.a (By ajo z.C U (.inl aa) z.a.a.C (vj o) (.inl (em (.lt .a (.b (.b .a .r) .r))))) (.ew (kW z.a.a.C))⟩
 | @i f b F U=>
   have W:uF k aI ai f b F (F.W f) .bw:= λG g d A D N a p n K H w C z B o=>by refine nK (xz z) λajQ ajp ajz ajn ajv ajq=>?_;subst B;exact⟨n.W f,aa,.a (kW ajn) (.a (I7 ajo ajv U (.inr aa)) (.ew (kW ajq)))⟩
   exact⟨BG W,W⟩
 | @q f b F OL ajN ajR i U h ajm M Y ajF=>
   have W:uF k aI ai f b F ajN i:= λG g d A D N a p n K H w C z B o=>by refine nK (xz z) λajQ ajp ajz ajn ajv ajq=>?_;subst B;exact aL (Y.1 af (d+3,d+2) g (d+3) A D N a (p+2) (n.W f) (p+2+L D+2) (p+2+L D) w C ajz aa (q9 o ⋯) ⟨λu=>⟨ajq,hO (.a .K (.b .a .L)) (.a .K .a) o,jl (.le (.b (.b .a .W) .e) (.b (.b (.b .a .W) .e) .W))⟩,λu=>⟨ajn,q9 o ⋯,br _⟩⟩) λZ P X=>lx.l ((show dS k aI ai (p+2+L D) n (p+2) (n.W f)from .a (kW ajn) (.a (By ajo ajv U (.inr aa) ajp (hO (.a .K (.b .a .r)) (.a .K .a) o) (.inr aa)) (.ew (kW ajp)))).y (by rcases ajm with rfl|rfl<;>exact X:dS k aI ai (p+2) (n.W f) (p+2+D.length) Z)) (ajF.2 G g d A D N a p Z K H w C z P o)
   exact⟨BG W,W⟩
 | @u f b F OL ajR U h ajm Y=>
   have W:uF k aI ai f b F OL (uy ajR):= λG g d A D N a p n K H w C z B o=>by
    refine nK (xz z) λajQ ajp ajz ajn ajv ajq=>?_;subst B;refine lx.l (.a (kW ajn) (.a (By ajo ajv U (.inr aa) ajp (vj o) (.inr aa)) (.ew (kW ajp)))) (aL (Y.1 af (d+3,d+2) g (d+3) A D N a (p+2) (n.W f) (p+2+L D+2) (p+2+L D) w C ajz aa (hO (.a .K (.b .a .L)) (.a .K .a) o) ⟨λu=>⟨ajq,q9 o ⋯,jl (.le (.b (.b .a .W) .e) (.b (.b (.b .a .W) .e) .W))⟩,λu=>⟨ajn,hO (.a .K (.b .a .W)) (.a .K .a) o,br _⟩⟩) λZ P X=>⟨Z,P,?_⟩);rcases ajm with rfl|rfl
    ·exact dS.y X (.ew (kW ajq))
    ·exact X
   exact⟨BG W,W⟩
 | @c M f akh E s F OL e h Y=>
   refine⟨λR G g d A J N a p n K H w C z B o T=>?_,bY⟩;refine sh C λv V CS akh ajt ajw akh ajS ajT ajG aju u=>?_;clear C;subst aju;have Q:=w.1;have ajx:=z.a;have ajr:ai[p+1+L CS+1+L ajw]?=O (.a (d+1)):=ajx.right.a.right.C;have akh:=oo ajG;have aj1:p+L (S.r (.d M v (.K M f))::(CS++.bw (ft s (d+2) (d+1))::(ajw++[.a (d+1)])))=p+1+L CS+1+L ajw+1:=by simp only[a6,hM,x9];exact rt [_,_,_] [] (.b .a (.b (.b .e (.b (.b .l (.b .K .r)) .r)) .r)) (.b (.b (.b (.b (.b .a .r) .e) .r) .l) .r)
   rw[aj1]at T⊢;have ajU:0<v/\v<=(L (A++V):j):=by
    rw[a6];rcases ajS with⟨P,rfl,rfl⟩|⟨rfl,rfl,rfl⟩
    ·rcases Q.ld with h|⟨i,h,q⟩
     ·exact b6 h P
     ·have:=(cs.mp q).1;rw[cj]at this;exact⟨go [_] [_] (.Lt .K .a) (.Eq .a (.b (.d .a) .r)) [1,-1] h,hA [_,_,_] [_] (.a .a (.d (.b .a .e))) (.Eq .a (.b (.d .l) .r)) (.lt .l .a) h this⟩
    ·exact⟨by exact em (.Lt .K (.b (.d .a) .r)),by show(L A:m)+1<=((L A+1:j):m);exact em (.a (.b (.d .a) .r) (.d (.b .a .r)))⟩
   subst B;have aj2:dw aI (.d M v (.K M f)) n=O (E,(n.bF f).X v E):=by refine(?_:((O ((bH aI f).getD (.e 0),n.bF f)).map λp=>(p.1,p.2.X v p.1))=_);rw[w.2.1];rfl
   have ajV:dS k aI ai p n (p+1) ((n.bF f).X v E):=.ew ⟨.r z.C aj2,br _,.inl (hi _)⟩;have aj3:= λ(aj4:a3)(aj5:aj4∈s.D)=>w9 (h:=BF A) Q (a:=V) ajS aj5;have ajA:fc ((fW s (d+2)).map (·.1))=fc s.D:=by rw[(uk Q.ep),sj]
   have ajW:0<=ft s (d+2) (d+1):=by
    rcases I' (a:=d+2) (d:=d+1) (c:=.l) Q.ep with⟨P,_⟩|P
    ·rw[P];exact vj o
    ·exact Jh P ajG ajx.right.a.left λu u u u u u u X u u u u u u=>hA [] [_,_] (.a .K .a) (.a .K .e) (.a (.b .e .W) .a) o X
   have aj6:=aga (aI:=aI) ajo Q.i ajT Q.W (A:=(n.bF f).X v E) ajx.left uA ajU.1 ajU.2 (CS:=eV (A++V)) (by rw[cj];exact br _) (λr q=>c9 (BE Q.ep q) λI ajs i=>⟨aj3 r.1 ajs,λe=>(by rw[e]at i;injection i),hA [] [_,_] (.a .K .a) (.a .K .e) (.a (.b .e .W) .a) o I⟩) ajW (gp [_] [_] (.a .K (.b (.b .a .r) (.d .a))) (.a .K .a) o) (ajA▸Q.c) (λx y ajH i=>Q.e x y (ajA▸ajH) (ajA▸i)) (λx ajH=>ajA▸ajH);refine aL aj6 λajs aj7 i=>?_;have ajI:=af0 (k:=k) (p:=E) (d:=M) (f:=d+2) (c:=n.c.bF f) Q.ep;have ajX:ajs.c=(iz k E M s (n.c.bF f)).2:=by rw[ajI.1];exact aj7
   have ajY:∀{r:m}{b:aW},om s (d+2) r b->l9 k E M s (n.c.bF f)=b->(∀q,ai[q]?=O (.a r)->p+1+L CS<q->dS k aI ai (p+1) ((n.bF f).X v E) q ajs)->lx k aI ai p n (uy e) (p+1+L CS+1+L ajw+1) K H OL:=by
    intro r b ajJ U ajK;refine Jh ajJ ajG ajx.right.a.left λq ajC ajD D ajl ajL aj8 akh aj9 ajM aka akb akc ajZ=>?_;have aj0:fI (l9 k E M s (n.c.bF f)) (d+1,G.2) r ajC (A++V++ajt++ajD) D ajl ajL:=U.symm▸akb;have I:=Y.1 R (d+1,G.2) r ajC (A++V++ajt++ajD) D ajl ajL (q+1) ajs (p+1+L CS+1+L ajw) H (iN (iN (iN (xk (Bx w.2.2 Q.ep (br _)) ⟨bY,s.aP⟩).1))) aj0 aka ajX (hB [_] [_,_,_] (.a .K .a) (.a .K .e) (.a (.b (.b .e .r) (.d .a)) .l) (.a .l .a) o (BD ajT) aj9) ⟨λu=>⟨ajr,by show 0<=d+1;exact hO (.a .K (.b .a .r)) (.a .K .a) o,ajZ⟩,λajm=>c9 (T.d (by rw[ajm];rfl)) λajB akd ake=>⟨ajB,akd,hA [_,_,_,_,_,_] [] (.le (.b (.b .a .r) .e) .l) (.le (.b (.b .a .r) .e) (.b (.b (.b (.b .s .r) .X) .r) .ab)) (.le (.b (.b (.b (.b (.b .s .r) .X) .r) .ab) .r) .l) ajZ ake⟩⟩;refine lx.l (ajV.y ((ajK q ajM (aj8)).y (.ew (kW ajM)))) (aL I λakd ake ajB=>⟨akd,ake,?_⟩);induction e using pV with
    |bw=>exact bd (akc (agb h aa aj0 (d:=[.a r]) aa)) λakf akg=>dS.y ajB (.a (uE akf ajr (by show 0<=d+1;exact vj o) (akg)) (.ew (kW ajr)))
    |a=>exact dS.y ajB (.ew (kW ajr))
    |b=>exact ajB
    |c=>exact ajB
   cases ajB:(iz k E M s (n.c.bF f)).1 with
   |some b=>
    have I:=ajI.2;rw[ajB]at I;refine aL I λr ajK ajJ=>?_;have i:∀q,ai[q]?=O (.a r)->p+1+L CS<=q->dS k aI ai (p+1) ((n.bF f).X v E) q ajs:=by rw[(show(iQ k E M (fW s (d+2)) ((n.bF f).X v E).c).1=O r from ajK)]at i;exact i
    exact ajY ajJ (by unfold l9;rw[ajB]) λq ajC ajD=>i q ajC (hy ajD)
   |none=>
    have I:=ajI.2;rw[ajB]at I;rw[(show(iQ k E M (fW s (d+2)) ((n.bF f).X v E).c).1=ab from I)]at i;have ajZ:l9 k E M s (n.c.bF f)=od s .l:=by unfold l9;rw[ajB]
    have ajL:∀q,ai[q]?=O (.a (ft s (d+2) (d+1)))->p+1+L CS<q->dS k aI ai (p+1) ((n.bF f).X v E) q ajs:= λq ajC ajD=>gQ i (λi=>i.y (.ew (uE ajx.right.C ajC ajW ajD))) λi=>i q ajC (hy ajD);rcases I' (a:=d+2) (d:=d+1) (c:=.l) Q.ep with⟨ajM,aj0⟩|ajM
    ·rw[ajM]at ajL;rw[ajZ,aj0]at h;cases h;exact⟨ajs,ajX,(ajV.y ((ajL _ ajr (jk [_,_,_] [] (.lt (.b (.b .a .r) .e) (.b (.b (.b (.b .a .r) .e) .r) .l)))).y (.ew (kW ajr))))⟩
    ·exact ajY ajM ajZ ajL
theorem age:∀{e:aE}{n:j},L e.s<=n->e.X λx=>L x.s<=n:=by
 intro e;induction e with
 |p k x=>intro n h;exact h
 |h k l=>intro n h;exact h
 |K k f=>intro n h;exact h
 |conv k e c d=>intro n h;exact⟨h,d (jL h)⟩
 |z a d=>intro n h;exact⟨h,d (jL h)⟩
 |is e k d=>intro n h;exact⟨h,d (jL h)⟩
 |v k e d=>intro n h;exact⟨h,d (jL h)⟩
 |A k e d=>intro n h;exact⟨h,d (jL h)⟩
 |G b k e d=>intro n h;exact⟨h,d (jL h)⟩
 |d k l e d=>intro n h;exact⟨h,aU (aU (gy (fK _)) (show L (aE.h k l::e.s)<=_ from fJ _)) h,d (jL (jL h))⟩
 |q k o a b f g=>intro n h;have c:L (a.s++b.s)+1<=n:=h;rw[a6]at c;exact⟨h,f (aU (cZ ..) (jL c)),g (aU (ev ..) (jL c))⟩
 |t a b f g=>intro n h;have c:L (a.s++b.s)+1<=n:=h;rw[a6]at c;exact⟨h,f (aU (cZ ..) (jL c)),g (aU (ev ..) (jL c))⟩
 |w a b f g=>intro n h;have c:L (a.s++b.s)+1<=n:=h;rw[a6]at c;exact⟨h,f (aU (cZ ..) (jL c)),g (aU (ev ..) (jL c))⟩
 |B a b f g=>intro n h;have c:L (a.s++b.s)+1<=n:=h;rw[a6]at c;exact⟨h,f (aU (cZ ..) (jL c)),g (aU (ev ..) (jL c))⟩
structure mS (a:aO)(b:bk)(e:aE):Prop where
 aw:e.aw
 c:e.X (aE.cc a b)
 kO:e1 (L e.s) 120=af
 y:e1 e.y 20=af
 cB:e1 e.cB 10=af
def mS.ok (h:mS aj au bP):bP.aL aj au:=⟨h.aw,h.c,age (aU (ea h.kO) ⋯),ea h.y⟩
def iR (b:aO)(k l:m):Prop:=∃(a:j)(f:m),l=(a+1:j)/\b[a]?=O (k,f)
theorem agf (a:hW d)(b:d≠13):d=19\/d=20\/d=12\/j1 d:=by
 rcases a with rfl|rfl|rfl|rfl|rfl|rfl|rfl|rfl|rfl|rfl|rfl|rfl|rfl
 ·exact mj (.inl aa)
 ·exact nM (.inl aa)
 ·exact rv (.inl aa)
 ·exact pZ (.inl aa)
 ·exact rx (.inl aa)
 ·exact s5 (.inl aa)
 ·exact s6 (.inl aa)
 ·exact CZ (.inl aa)
 ·exact Ls aa
 ·exact .inl aa
 ·exact .inr (.inl aa)
 ·exact b6 aa b
 ·exact ey (.inl aa)
def xA (h:j1 d):mO (fQ d):=by rcases h with rfl|rfl|rfl|rfl|rfl|rfl|rfl|rfl|rfl<;>first|exact .inl aa|exact .inr (.inl aa)|exact ey (.inl aa)|exact mj aa
theorem agg (h:j1 d):lv d:=by
 rcases h with rfl|rfl|rfl|rfl|rfl|rfl|rfl|rfl|rfl
 ·exact ey (.inl aa)
 ·exact nM (.inl aa)
 ·exact mj (.inl aa)
 ·exact rv (.inl aa)
 ·exact .inr (.inl aa)
 ·exact .inl aa
 ·exact pZ (.inl aa)
 ·exact rx (.inl aa)
 ·exact s5 aa
def xB (h:mO d):lv d:=by
 rcases h with rfl|rfl|rfl|rfl
 ·exact ey (.inl aa)
 ·exact mj (.inl aa)
 ·exact nM (.inl aa)
 ·exact rv (.inl aa)
theorem Jj (h:j1 d)(a:iR aj d o):(fd d (.h d o)).i=fQ d/\(fd d (.h d o)).X (aE.cc aj au)/\(fd d (.h d o)).aw/\L (fd d (.h d o)).s<=2/\(fd d (.h d o)).y<=2/\(fd d (.h d o)).cB=0:=by
 delta fd;by_cases e:d=fQ d
 ·rw[dz e];exact⟨e,a,bY,fJ _,fJ _,aa⟩
 ·rw[cL e];exact⟨aa,⟨.inl ⟨aa,agg h,xB (xA h)⟩,a⟩,bY,br _,br _,aa⟩
theorem uG (b:f=92\/f=91\/f=93)(c:bP.i=nw.i)(a:mO bP.i)(d:bP.X (aE.cc aj au))(e:nw.X (aE.cc aj au)):(aE.q 1 f bP nw).X (aE.cc aj au):=by
 refine⟨⟨c,.inr ⟨aa,?_⟩⟩,d,e⟩;rcases b with rfl|rfl|rfl
 ·exact .inl ⟨.inl aa,.inl a⟩
 ·exact .inr ⟨.inl aa,a⟩
 ·exact .inr ⟨.inr aa,a⟩
def sr (h:mO d):(aE.p d (.e B)).X (aE.cc aj au):=ey ⟨⟨B,aa⟩,.inr h⟩
theorem agh (f:hW d)(g:d≠13)(a:iR aj d o):mS aj au (jv d o B)/\(jv d o B).i=1:=by
 rcases agf f g with rfl|rfl|rfl|b
 ·exact⟨⟨⟨bY,bY,aa⟩,⟨⟨aa,aa⟩,⟨⟨aa,.inl aa⟩,a⟩,uG (.inl aa) aa (.inl aa) ⟨⟨aa,.inl ⟨aa,aa⟩⟩,a⟩ (sr (.inl aa))⟩,aa,aa,aa⟩,aa⟩
 ·exact⟨⟨⟨bY,bY,aa⟩,⟨⟨aa,aa⟩,⟨⟨aa,.inr aa⟩,a⟩,uG (.inl aa) aa (ey (.inl aa)) ⟨.inl ⟨aa,rx (.inl aa),nM (.inl aa)⟩,⟨aa,.inr ⟨aa,aa⟩⟩,a⟩ (sr (ey (.inl aa)))⟩,aa,aa,aa⟩,aa⟩
 ·rw[IE];have c:mO (eG B):=(IF (J:=B)).elim (λh=>ey (.inl h)) λh=>.inl h;exact⟨⟨⟨bY,bY,aa⟩,⟨⟨aa,aa⟩,⟨⟨aa,.inl (xB c)⟩,a⟩,uG (.inl aa) aa c ⟨ey ⟨aa,aa,xB c⟩,a⟩ (sr c)⟩,aa,aa,aa⟩,aa⟩
 ·refine nK (Jj (au:=au) b a) λe h i j k l=>?_;delta jv;rw[cL (by rcases b with rfl|rfl|rfl|rfl|rfl|rfl|rfl|rfl|rfl<;>decide:d≠19),cL (by rcases b with rfl|rfl|rfl|rfl|rfl|rfl|rfl|rfl|rfl<;>decide:d≠20),cL (by rcases b with rfl|rfl|rfl|rfl|rfl|rfl|rfl|rfl|rfl<;>decide:d≠12)];refine⟨⟨⟨i,aa⟩,uG (.inl aa) e (e▸xA b) h (sr (xA b)),?_,f0 ((nE ((fd d (aE.h d o)).y) (1)).elim (λc=>ec (.le (.b .a .r) (.y 20)) (.l .a .r) (uW c)) λc=>k' (.le (.b .a .r) (.y 20)) (.le .e .W) (.l .a .e) k (xV c)),?_⟩,aa⟩
  ·refine f0 (?_:L ((fd d (.h d o)).s++[aE.p (fQ d) (.e B)])+1<=120);rw[a6];show _+1+1<=_;exact ec (.le (.b (.b .a .r) .r) (.y 120)) (.le .a .W) j
  ·exact f0 (ec (.le (.b .a .K) (.y 10)) (.l .a .K) l:(fd d (.h d o)).cB+0<=10)
theorem agi (b:d=13\/d=12)(a:iR aj d o):mS aj au (nq d o a9)/\(nq d o a9).i=1:=by
 rcases b with rfl|rfl
 ·exact⟨⟨⟨bY,aa⟩,⟨⟨aa,aa⟩,a,.inr (.inl ⟨⟨a9,aa⟩,aa⟩)⟩,aa,aa,aa⟩,aa⟩
 ·exact⟨⟨⟨bY,aa⟩,⟨⟨aa,aa⟩,⟨⟨.inl aa,.inr aa⟩,a⟩,.inr (.inl ⟨⟨a9,aa⟩,aa⟩)⟩,aa,aa,aa⟩,aa⟩
theorem agj (b:d=12\/d=13\/d=19\/d=20)(a:iR aj d o):mS aj au (l1 d o)/\(l1 d o).i=1:=by
 rcases b with rfl|rfl|rfl|rfl
 ·exact⟨⟨⟨bY,aa⟩,⟨aa,⟨aa,.inr ⟨aa,.inl ⟨.inr aa,.inr (.inl aa)⟩⟩⟩,a,.inl ⟨aa,.inl aa⟩⟩,aa,aa,aa⟩,aa⟩
 ·exact⟨⟨⟨bY,aa⟩,⟨aa,⟨aa,.inr ⟨aa,.inl ⟨.inr aa,ey aa⟩⟩⟩,a,.inl ⟨aa,.inr aa⟩⟩,aa,aa,aa⟩,aa⟩
 ·exact⟨⟨bY,⟨aa,⟨aa,.inl aa⟩,a⟩,aa,aa,aa⟩,aa⟩
 ·exact⟨⟨bY,⟨aa,⟨aa,.inr aa⟩,a⟩,aa,aa,aa⟩,aa⟩
def BH:lv 7:=ey (.inl aa)
def Jk:lv 9:=nM (.inl aa)
def Jl:lv 16:=pZ (.inl aa)
theorem agk (b:d=7\/d=9\/d=12\/d=16)(a:iR aj d o):(ih d o).i=12/\(ih d o).X (aE.cc aj au)/\(ih d o).aw/\L (ih d o).s<=2/\(ih d o).y<=2/\(ih d o).cB=0:=by
 rcases b with rfl|rfl|rfl|rfl
 ·exact⟨aa,⟨.inr (.inl ⟨aa,BH,aa⟩),a⟩,bY,br _,br _,aa⟩
 ·exact⟨aa,⟨.inr (.inl ⟨aa,Jk,aa⟩),a⟩,bY,br _,br _,aa⟩
 ·exact⟨aa,a,bY,fJ _,fJ _,aa⟩
 ·exact⟨aa,⟨.inr (.inl ⟨aa,Jl,aa⟩),a⟩,bY,br _,br _,aa⟩
def Jm (a:iR aj 12 d)(b:lv J)(c:iR aj J aF):(sd (.h 12 d) J aF).aw/\(sd (.h 12 d) J aF).X (aE.cc aj au):=
 ⟨⟨bY,bY,aa⟩,⟨aa,aa⟩,⟨⟨aa,.inl b⟩,a⟩,aa,⟨aa,c,ey ⟨aa,aa,b⟩,a⟩,ey ⟨⟨1,aa⟩,.inl aa⟩⟩
theorem agl (f:(J=7\/J=9)/\(d=7\/d=9\/d=12\/d=16)\/J=16/\(d=7\/d=9\/d=16)\/J=13/\d=12)(g:iR aj d o)(a:aF=0\/iR aj J aF)(b:mI d aF=af->iR aj 12 bo):
 (ef d o J aF bo).i=1/\(ef d o J aF bo).X (aE.cc aj au)/\(ef d o J aF bo).aw/\L (ef d o J aF bo).s<=20/\(ef d o J aF bo).y<=10/\(ef d o J aF bo).cB<=4:=by
 have c:lv J\/J=13:=by
  rcases f with⟨rfl|rfl,_⟩|⟨rfl,_⟩|⟨rfl,_⟩
  ·exact .inl BH
  ·exact .inl Jk
  ·exact .inl Jl
  ·exact .inr aa
 refine nK (agk (au:=au) (Lr f:d=7\/d=9\/d=12\/d=16) g) λk l m n p q=>?_;delta ef;delta mI at b;by_cases z:aF=0
 ·rw[dz z];exact⟨aa,⟨⟨k,c⟩,l⟩,m,KU (g4 n ⋯),KU (g4 p ⋯),aU (he q) ⋯⟩
 have a:=a.resolve_left z;rw[cL z]at b⊢;by_cases e:J=13
 ·have i:d=12:=(f.resolve_left λh=>oK (h.1.imp id .inl) ⋯ ⋯ (by decide:(9:Int)≠13) e).elim (λh=>b6 (h.1.symm.trans e) ⋯) B1;subst e;subst i;exact⟨aa,⟨aa,⟨aa,a,⟨⟨.inl aa,.inr aa⟩,g⟩⟩,⟨aa,.inr ⟨aa,.inl ⟨.inr aa,ey aa⟩⟩⟩,a,.inl ⟨aa,.inr aa⟩⟩,⟨bY,bY,aa⟩,ea aa,ea aa,ea aa⟩
 rw[cL e];have c:=c.resolve_right e;by_cases r:d=12
 ·subst r;exact bd (Jm (au:=au) g c a) λh i=>⟨aa,i,h,ea aa,ea aa,ea aa⟩
 ·rw[cL r]at b⊢;refine bd (Jm (au:=au) (b aa) c a) λh i=>⟨aa,⟨aa,⟨k,b aa,l⟩,i⟩,⟨m,h⟩,?_,(nE ((ih d o).y+2) (6)).elim (λj=>ec (.le (.b .a .r) (.y 10)) (.l .a (.y 6)) (uW j)) λj=>lK (.le (.b .a .r) (.y 10)) (.le .e .W) (.le (.y 6) (.b .e .W)) [0,1,1] p j,?_⟩
  ·refine(?_:L ((aE.d 12 bo (ih d o)).s++(sd (.h 12 bo) J aF).s)+1<=20);rw[a6];exact ec (.le (.b (.b (.b (.b .a .r) .r) (.y 9)) .r) (.y 20)) (.le .a .W) n
  ·exact(ec (.le (.b (.b .a .r) .r) (.y 4)) (.l .a .K) q:(ih d o).cB+1+1<=4)
theorem agm (n:hW d){e:aO}{l:a3}(a:fP d o e l)(q:l≠.a)(b:iR aj d o)(r:∀aF J,ln e aF J->iR aj J aF)(s:ii d l=af->iR aj 12 bo)(t:∀p,p∈l.y->bH (hH 1000 au) p.2=O (.e p.1)):mS aj au (jZ d o bo l)/\(jZ d o bo l).i=1:=by
 induction l using iD with
 |a=>exact b6 aa q
 |c B=>exact agh n a.1 b
 |gM x=>exact agi a.1 b
 |d=>exact agj a b
 |b J aF f=>
  refine nK (agl (au:=au) (bo:=bo) a.1 b (a.2.imp id λh=>r _ _ h.1) s) λg h i j k m=>?_;induction f using gA with
  |none=>exact⟨⟨i,h,f0 (by show L (ef d o J aF bo).s<=120;exact aU j ⋯),f0 (by show(ef d o J aF bo).y<=20;exact aU k ⋯),f0 (by show(ef d o J aF bo).cB<=10;exact aU m ⋯)⟩,g⟩
  |some f=>
   refine⟨⟨⟨i,bY⟩,⟨⟨g,aa⟩,h,(t (1,f) (cz.mpr aa))⟩,f0 ?_,f0 ((nE ((ef d o J aF bo).y) (1)).elim (λc=>ec (.le (.b .a .r) (.y 20)) (.l .a .r) (uW c)) λc=>k' (.le (.b .a .r) (.y 20)) (.le .e (.y 10)) (.l .a .e) k (xV c)),f0 (ec (.le (.b .a .r) (.y 10)) (.le .a (.y 4)) m)⟩,aa⟩
   ·refine(?_:L ((ef d o J aF bo).s++[aE.K 1 f])+1<=120);rw[a6];show _+1+1<=_;exact ec (.le (.b (.b .a .r) .r) (.y 120)) (.le .a (.y 20)) j
def kX (a:aO)(b:bk)(c:S):Prop:=(∀e,e∈c.s->mS a b e)/\match c with
 |.b e w _=>e.i=1/\(w=0\/w=1)
 |.d e d=>(e.i=7\/e.i=8)/\L d<=120
 |_=>fZ
theorem kX.ok (h:kX aj au eX):eX.aL aj au:=⟨λe b=>(h.1 e b).ok,by
 have a:=h.2;induction eX using sY with
 |d e c=>exact⟨a.1,aU a.2 ⋯⟩
 |_=>exact a⟩
def uH (h:mS aj au bP)(a:bP.i=1)(b:d=0\/d=1):kX aj au (.b bP d o):=⟨λx c=>by rw[cz.mp c];exact h,a,b⟩
def xC (h:bH (hH 1000 au) o=O (.e d)):mS aj au (.K d o):=⟨bY,h,aa,aa,aa⟩
def q3:kX aj au (.a d):=⟨λa h=>by(cases h),bY⟩
def uI:kX aj au (.bw d):=⟨λa h=>by(cases h),bY⟩
theorem agn (u:j1 d)(B:iR aj d o){a C v:m}{n:bk}(D:L n<=120):∀c,c∈gO d o a C v n->kX aj au c:=by
 refine nK (Jj (au:=au) u B) λi p q r s t=>?_;have e:=xA u;have w:∀{k:j}{x:m},(k=91\/k=93)->mS aj au (.q 1 k (fd d (.h d o)) (.p (fQ d) (.e x))):= λ{k x} E=>by
  refine⟨⟨q,aa⟩,uG (.inr E) i (i▸e) p (sr e),f0 ?_,f0 ((nE ((fd d (aE.h d o)).y) (1)).elim (λf=>ec (.le (.b .a .r) (.y 20)) (.l .a .r) (uW f)) λf=>k' (.le (.b .a .r) (.y 20)) (.le .e .W) (.l .a .e) s (xV f)),f0 (ec (.le (.b .a .K) (.y 10)) (.l .a .K) t)⟩
  ·refine(?_:L ((fd d (.h d o)).s++[aE.p (fQ d) (.e x)])+1<=120);rw[a6];show _+1+1<=_;exact ec (.le (.b (.b .a .r) .r) (.y 120)) (.le .a .W) r
 have g:(iv d o a).i=fQ d/\(iv d o a).X (aE.cc aj au)/\(iv d o a).aw/\L (iv d o a).s<=4/\(iv d o a).y<=4/\(iv d o a).cB=0:=by
  delta iv;cases !an (a=0)with
  |true=>
   refine⟨aa,⟨⟨i,.inl ⟨aa,i,e⟩⟩,p,sr (aj:=aj) (au:=au) e⟩,⟨q,aa⟩,?_,(nE ((fd d (aE.h d o)).y) (1)).elim (λf=>ec (.le (.b .a .r) (.y 4)) (.l .a .r) (uW f)) λf=>k' (.le (.b .a .r) (.y 4)) (.le .e .W) (.l .a .e) s (xV f),t⟩
   ·refine(?_:L ((fd d (.h d o)).s++[aE.p (fQ d) (.e a)])+1<=4);rw[a6];show _+1+1<=_;exact ec (.le (.b (.b .a .r) .r) (.y 4)) (.le .a .W) r
  |false=>exact⟨i,p,q,by show L (fd d (.h d o)).s<=4;exact aU r ⋯,by show(fd d (.h d o)).y<=4;exact aU s ⋯,t⟩
 refine nK g λy aF z G G G=>?_;have A:mS aj au (kt d o a)/\((kt d o a).i=7\/(kt d o a).i=8):=by
  delta kt;cases l:iL d with
  |true=>exact⟨⟨z,⟨.inl ⟨aa,by rw[y];exact xB e,BH⟩,aF⟩,f0 (by show L (iv d o a).s+1<=120;exact iG (.le (.b .a .r) (.y 120)) (.e (.le .a (.y 4)) (.e (.le .e (.y 4)) (.l .l .K))) [1,1,0,0] g.2.2.2),f0 (by show(iv d o a).y+1<=20;exact iG (.le (.b .a .r) (.y 20)) (.e (.le .e (.y 4)) (.e (.le .a (.y 4)) (.l .l .K))) [1,0,1,0] g.2.2.2),f0 (by show(iv d o a).cB<=10;exact iG (.le .a (.y 10)) (.e (.le .e (.y 4)) (.e (.le .l (.y 4)) (.l .a .K))) [1,0,0,1] g.2.2.2)⟩,.inl aa⟩
  |false=>refine⟨⟨z,aF,f0 (by show L (iv d o a).s<=120;exact iG (.le .a (.y 120)) (.e (.le .a (.y 4)) (.e (.le .e (.y 4)) (.l .l .K))) [1,1,0,0] g.2.2.2),f0 (by show(iv d o a).y<=20;exact iG (.le .a (.y 20)) (.e (.le .e (.y 4)) (.e (.le .a (.y 4)) (.l .l .K))) [1,0,1,0] g.2.2.2),f0 (by show(iv d o a).cB<=10;exact iG (.le .a (.y 10)) (.e (.le .e (.y 4)) (.e (.le .l (.y 4)) (.l .a .K))) [1,0,0,1] g.2.2.2)⟩,?_⟩;rw[y];have:=iF l;have e:fQ d=7\/fQ d=8\/fQ d=9\/fQ d=10:=e;exact e.imp id λh=>h.resolve_right this
 have h:∀c,c∈[S.d (kt d o a) n,.a v]->kX aj au c:= λc b=>by
  rcases kv b with rfl|rfl
  ·exact⟨λx F=>by rw[cz.mp F];exact A.1,A.2,D⟩
  ·exact q3
 intro c b;delta gO at b;cases l:iL d with
 |true=>
  rw[l]at b;refine gQ (et.mp b) (λb=>?_) λb=>h c b
  ·rcases kv b with rfl|rfl
   ·exact uH (w (.inl aa)) aa (.inr aa)
   ·exact uH (w (.inr aa)) aa (.inr aa)
 |false=>rw[l]at b;exact h c b
theorem Jn:∀{b:n a3},cH∈b->∀p,p∈cH.y->p∈er b
 |[],h,p,_=>by cases h
 |a::t,h,p,c=>by
  refine(?_:p∈a.y++er t);rcases fw.mp h with rfl|h
  ·exact hN _ c
  ·exact gC _ (Jn h p c)
theorem ago:cH∈aB.D->∀p,p∈cH.y->p∈aB.y:=by
 induction aB with
 |d a b r _ d=>
  intro h p c;refine(?_:p∈er a++(b.y++r.y));rcases et.mp (show cH∈a++r.D from h)with h|h
  ·exact hN _ (Jn h p c)
  ·exact gC _ (gC _ (d h p c))
 |_=>intro h;cases h
theorem agp (s:hW d){k:aO}(u:iR aj d o)(v:∀l q,ln k l q->iR aj q l):∀{e:n (a3×m)}{a:j},(∀r,r∈e->fP d o k r.1/\r.1≠.a/\∀p,p∈r.1.y->bH (hH 1000 au) p.2=O (.e p.1))->(∀(i:j) b,(l2 d e)[i]?=O b->aj[a+i]?=O b)->∀c,c∈iw d o a e->kX aj au c:=by
 intro e;induction e with
 |nil=>intro a f f c h;cases h
 |cons r t w=>
  intro a p g c f;refine c9 (p r (db ..)) λx y z=>?_;have g:∀(i:j) b,(j0 (ii d r.1)++l2 d t)[i]?=O b->aj[a+i]?=O b:=g;have f:c∈.b (jZ d o ((a:m)+1) r.1) 1 r.2::iw d o (a+L (j0 (ii d r.1))) t:=f;rcases fw.mp f with rfl|f
  ·exact bd (agm (bo:=(a:m)+1) s x y u v (λA=>⟨a,32,aa,g 0 _ (by rw[A];rfl)⟩) z) λA B=>uH A B (.inr aa)
  ·exact w (λA B=>p A (dy _ B)) (λi b h=>by rw[ka];exact g _ b (by rw[hh (cZ _ _),ox];exact h)) c f
theorem agq (k:j1 d)(l:iR aj d o){e:m}:∀{f:n aO}{b:m},(∀r,r∈f->1<L r->fA r-dX r<=100)->∀c,c∈eC d o e b f->kX aj au c:=by
 intro f;induction f with
 |nil=>intro b a c h;cases h
 |cons r t i=>
  intro b h c a;have a:c∈(match an (1<L r)with|true=>gO d o (dX r) (fA r) (b+1) (gc r e (dX r) (fA r+1-dX r).toNat)++eC d o e (b+1) t|false=>eC d o e b t):=a;have j:∀r,r∈t->1<L r->fA r-dX r<=100:= λr p=>h r (dy _ p);by_cases g:1<L r
  ·rw[dz g]at a;have:=h r (db ..) g;exact gQ (et.mp a) (λa=>agn k l (by rw[AM];exact JP.mpr (k9 (.a (.c (.b .a .r) .e) (.y 120)) (.a (.c .a .e) (.y 100)) this)) c a) λa=>i j c a
  ·rw[cL g]at a;exact i j c a
theorem Jo (f:∃z,aj=dt++z){g d:m}(h:ln (eV dt) g d):iR aj d g:=by
 refine bu f ?_;clear f;rintro z rfl;refine aL h λi j c=>?_;rw[eV,h4]at c;cases e:dt[i]?with
 |none=>rw[e]at c;injection c
 |some p=>
  rw[e]at c;obtain⟨a,b⟩:=p;have c:O (a,(0:m))=O (d,0):=c;replace c:=aY c;injection c with c;subst c
  exact⟨i,b,j,dj e⟩
theorem agr:∀{x:m×m}{g A:m}{v:aO}{B:n S}{F:m}{a:aO}{G:bm},fI aB x g A v B F a->aB.K aI (eV v) G->(∃z,aj=v++a++z)->(∀p,p∈aB.y->bH (hH 1000 au) p.2=O (.e p.1))->∀u,u∈B->kX aj au u:=by
 have Z:∀{x:m×m}{t:e8},(∀p,p∈t.y->bH (hH 1000 au) p.2=O (.e p.1))->kX aj au (j3 x t):= λ{x t} h=>by
  induction t using mg with
  |a=>exact uI
  |b=>exact uI
  |c f=>exact⟨λaB H=>by rw[cz.mp H];exact xC (h (7,f) (cz.mpr aa)),bY⟩
 induction aB with
 |l=>intro x g A v B F a G C D D D u h;rw[C.1]at h;cases h
 |C aB y b e=>intro x g A v B F a G C w j k u h;refine pw C λT ajn I ajo J K U M N=>?_;clear C;subst M N;exact bu j λz E=>gQ (et.mp h) (λh=>b K w.1 ⟨J++z,by rw[E];simp only[bU]⟩ (λp j=>k p (hN _ j)) u h) λh=>e U (iN w.2) ⟨z,by rw[E];simp only[bU]⟩ (λp j=>k p (gC _ j)) u h
 |p t=>intro x g A v B F a G C D D k u h;rw[C.1]at h;rw[cz.mp h];exact Z k
 |o d f=>intro x g A v B F a G C D D k u h;rw[C.1]at h;rw[cz.mp h];exact(λh=>⟨λaB H=>by rw[cz.mp H];exact xC h,bY⟩) (k (d,f) (cz.mpr aa))
 |W f t=>
  intro x g A v B F a G C D D k u h;rw[C.1]at h;rcases fw.mp h with rfl|h
  ·exact uH (xC (k (1,f) (db ..))) aa (.inl aa)
  rcases kv h with rfl|rfl
  ·exact Z λp j=>k p (dy _ j)
  ·exact q3
 |h f b V=>
  intro x g A v B F a G C w j k u h;refine aL C ?_;clear C;rintro T K rfl;rcases et.mp h with h|h
  ·refine gQ (et.mp h) (λh=>?_) λh=>V K w.1 j (λp j=>k p (dy _ j)) u h
   ·rcases kv h with rfl|rfl
    ·exact uI
    ·exact q3
  ·rcases fw.mp h with rfl|h
   ·exact q3
   rcases kv h with rfl|rfl
   ·exact uH (xC (k (1,f) (db ..))) aa (.inr aa)
   ·exact q3
 |c d f ajH ajH s V=>
  intro x g A v B F a G C w j k u h;refine sh C λo I ajH ajp J ajH ajq CS ajr ajs M N=>?_;clear C;subst M N;refine bu j λz E=>?_;have y:=w.1;have Q:∃z,aj=(v++I)++z:=⟨J++ajq++z,by rw[E];simp only[bU]⟩;have X:iR aj d o:=by
   rcases CS with⟨Y,rfl,rfl⟩|⟨rfl,rfl,rfl⟩
   ·exact Jo ⟨_,by rw[E];simp only[bU];rfl⟩ (y.ld.resolve_left Y)
   ·refine⟨L v,32,aa,bu Q λe Q=>?_⟩;rw[Q];exact dj jz
  have ajt:= λ(aju:a3)(R:aju∈s.D)=>w9 (h:=BF v) y (a:=I) CS R;have ajv:∀r,r∈fW s (A+2)->fP d o (eV (v++I)) r.1/\r.1≠.a/\∀p,p∈r.1.y->bH (hH 1000 au) p.2=O (.e p.1):= λr P=>c9 (BE y.ep P) λajH OL ajl=>⟨ajt r.1 OL,λe=>(by rw[e]at ajl;injection ajl),λp j=>k p (dy _ (ago OL p j))⟩;rcases fw.mp h with rfl|h
  ·refine⟨λaB H=>?_,bY⟩;rw[cz.mp H];exact⟨bY,⟨aa,X,(k (d,f) (db ..))⟩,aa,aa,aa⟩
  refine gQ (et.mp h) (λh=>?_) λh=>?_
  ·refine ru ajr.C λajH ajw D D ajx ajy ajz=>?_;rw[ajy]at h;refine gQ (et.mp h) (λh=>?_) λh=>?_
   ·rcases ajz with rfl|⟨ajA,e,ajB,ajC⟩
    ·cases h
    ·have i:e.map (·.1)=fc s.D:=by rw[<-(by rw[uk y.ep,sj]:fc ((fW s (A+2)).map (·.1))=fc s.D),ajB];exact w4.symm
     have ajH:q2 e:=vi.mp (i▸y.c);refine agq ajA X (λr P Y=>?_) u h;have R:0<L r:=kE K4 Y;refine aL (BA R) λp ajD ajE=>aL (xw R) λq ajF ajG=>?_;have ajm:∀aB,aB∈r->aB.1∈fc s.D:= λaB H=>i▸nI (by rw[<-ajC.X];exact CB.mpr ⟨r,P,H⟩);exact gE [] [_,_,_,_] (.a (.c .a .e) (.y 100)) (.Eq .l .e) (.Eq .s .a) (.a (.c .s .l) (.y 100)) [1,1,-1,1] ajE ajG (y.e _ _ (ajm p ajD) (ajm q ajF))
   ·refine agp (e:=hJ ajw (fW s (A+2))) y.i X (λajp i e=>Jo Q e) (λr P=>ajv r (rl.mp P).1) (λi i e=>?_) u h;rw[<-ajx]at e;rw[E,bU,bU,bU,<-bU v,hh (cZ _ _),ox];exact dj e
  ·rcases fw.mp h with rfl|h
   ·exact uI
   rcases et.mp h with h|h
   ·exact V ajs (iN (iN w.2.2)) ⟨z,by rw[E];simp only[bU]⟩ (λp j=>k p (dy _ j)) u h
   ·rw[cz.mp h];exact q3
 |d s b r i q=>
  intro x g A v B F a G C w j k u h;refine w7 C λT ajn I ajo J K U M N=>?_;clear C;subst M N;refine bu j λz E=>?_;rcases et.mp h with h|h
  ·rcases et.mp h with h|h
   ·rcases fw.mp h with rfl|h
    ·exact q3
    ·exact i K w.1.1 ⟨J++z,by rw[E];simp only[bU]⟩ (λp j=>k p (gC _ (hN _ j))) u h
   ·cases e:lr (.a g::T)with
    |true=>rw[e]at h;rw[cz.mp h];exact uI
    |false=>rw[e]at h;cases h
  ·exact q U (iN w.2) ⟨z,by rw[E];simp only[bU]⟩ (λp j=>k p (gC _ (gC _ j))) u h
def j6:du (ai++dY)=du ai++du dY:=kb ..
def q4:g0 (ai++dY)=g0 ai++g0 dY:=kb ..
def op (h:aB.al):aB.X=0:=by induction aB using aW.casesOn<;>first|rfl|exact h.elim
noncomputable def uJ:jX:=⟨0,1,3,6⟩
def Jp:du (gO d o B J aF au)=[aF]:=by unfold gO;cases iL d<;>rfl
theorem BI:∀{b:n (a3×m)}{a:j},du (iw d o a b)=[]
 |[],_=>aa
 |r::t,a=>BI (b:=t)
def kz (L:bk)(a b:m):Prop:=L.Nodup/\∀l,l∈L->a<l/\l<=b
def kz.l:kz [] d o:=⟨.nil,λl h=>nomatch h⟩
theorem kz.C (h:kz au d o)(k:kz cV o B)(b:d<=o)(c:o<=B):kz (au++cV) d B:=
 ⟨oH.mpr ⟨h.1,k.1,λx a y f e=>Int.lt_irrefl _ (B0 (k.2 y f).1 (e▸(h.2 x a).2))⟩,λl e=>(et.mp e).elim (λa=>⟨(h.2 l a).1,jh (h.2 l a).2 c⟩) λa=>⟨uQ b (k.2 l a).1,(k.2 l a).2⟩⟩
theorem kz.a (h:d<o)(k:kz au o B)(a:o<=B):kz (o::au) d B:=
 kz.C (au:=[o]) ⟨pL.mpr ⟨m0,.nil⟩,λl b=>by rw[cz.mp b];exact⟨h,g2 _⟩⟩ k (mc h) a
def uK (n:j):m->bk:=n.rec (λa=>[]) λa f g=>g::f (g+1)
def ags:∀{g:m},L (uK f g)=f:=by
 induction f with
 |zero=>exact aa
 |succ f a=>exact cp (·+1) a
theorem agt:∀{g a b:m},a<g->g+f<=b+1->kz (uK f g) a b:=by
 induction f with
 |zero=>exactλc c=>.l
 |succ f c=>exactλ{g a b} h k=>.a h (c (uR _) (gp [_] [_,_] (.a (.b (.b .a .r) (.d .a)) (.b .e .r)) (.a (.b .a (.d (.b .a .r))) (.b .e .r)) k)) (gp [_] [_,_] (.a .a .e) (.a (.b .a (.d (.b .a .r))) (.b .e .r)) k)
theorem agu:∀{g l:m},g<=l->l<g+f->l∈uK f g:=by
 induction f with
 |zero=>exactλ{g l} a b=>b6 (hA [] [_,_] .F (.a .a .e) (.Lt .e (.b .a (.d .K))) a b) id
 |succ f c=>
  intro g l a b;by_cases h:l=g
  ·rw[h];exact db ..
  ·exact dy _ (c (aiL.mpr ⟨a,sU h⟩) (gp [_] [_,_] (.Lt .a (.b (.b .e .r) (.d .a))) (.Lt .a (.b .e (.d (.b .a .r)))) b))
theorem Jq:∀{c:n aO}{a:m},(∀b,a+L (es c)<=b->kz (du (eC d o B a c)) a b)/\L (du (eC d o B a c))=L (es c):=by
 intro c;induction c with
 |nil=>exactλ{a}=>⟨λe e=>.l,aa⟩
 |cons r t e=>
  intro a;have f:eC d o B a (r::t)=(match an (1<L r)with|true=>gO d o (dX r) (fA r) (a+1) (gc r B (dX r) (fA r+1-dX r).toNat)++eC d o B (a+1) t|false=>eC d o B a t):=aa;by_cases h:1<L r
  ·rw[f,dz h];refine bd (e (a:=a+1)) λi j=>?_;show(∀b,_->kz (du (_++_)) _ b)/\L (du (_++_))=_;rw[j6,Jp,(show es (r::t)=r::es t from m3 (p:= λr:aO=>an (1<L r)) (dz h)),hM];exact⟨λb g=>.a (uR _) (i b (gp [_] [_,_] (.a (.b (.b .a .r) (.d .a)) .e) (.a (.b .a (.d (.b .a .r))) .e) g)) (gp [_] [_,_] (.a (.b .a .r) .e) (.a (.b .a (.d (.b .a .r))) .e) g),cp (·+1) j⟩
  ·rw[f,cL h];rw[(show es (r::t)=es t from rp (p:= λr:aO=>an (1<L r)) (by rw[cL h];exact k3))];exact e
theorem Jr:∀{a:n aO},(∀r,r∈a->L r=1\/4<=L r)->4*L (es a)<=L a.flatten
 |[],_=>br _
 |r::t,h=>by
  have d:=Jr (a:=t) λx e=>h x (dy _ e);rw[Cx,a6];by_cases b:1<L r
  ·rw[show es (r::t)=r::es t from m3 (p:= λr:aO=>an (1<L r)) (dz b),hM];exact(h r (db ..)).elim (λc=>g6 (.le (.f 4 (.b .a .r)) (.b .e .l)) (.l .e .r) (.lt .r .e) [0,1,1] c b) λc=>fE (.le (.f 4 (.b .a .r)) (.b .e .l)) (.le (.y 4) .e) (.le (.f 4 .a) .l) c d
  ·rw[show es (r::t)=es t from rp (p:= λr:aO=>an (1<L r)) (by rw[cL b];exact k3)];exact ex (.le (.f 4 .a) (.b .e .l)) (.le (.f 4 .a) .l) d
theorem Js (h:pu d o B f fk J aF aj ai)(a:L (fc (fk.map (·.1)))<=9):kz (du ai) J aF/\L (du ai)<=2:=by
 refine ru h.C ?_;rintro c q rfl e e rfl g;refine bd (Jq (d:=d) (o:=o) (B:=B) (c:=c) (a:=J)) λi k=>?_;rw[j6,BI,ca];refine⟨i _ (g2 _),?_⟩;rw[k];rcases g with rfl|⟨_,l,p,b⟩
 ·exact fK _
 ·have:=Jr b.W;rw[b.X]at this;rw[(by rw[p];exact w4:fc (fk.map (·.1))=l.map (·.1)),cj]at a;exact lK (.le .a .W) (.le .e (.y 9)) (.le (.f 4 .a) .e) [4,1,1] a this
def Jt (C:fI (.d c3 aB gb) cu d o aj ai B dt):∃b c a e f,fI aB cu d o aj b c a/\fI gb cu (d+1) c (aj++a) e B f/\ai=lu cu.1 d b++e/\dt=a++f:=C
def Ju:du (lu d o ai)=o::du ai:=by unfold lu;rw[j6];cases lr (.a o::ai)<;>(show(o::du ai)++[]=_;rw[ca])
def xD (c:n S)(a b g:m)(d e:j):Prop:=∃R,(du c).Perm (uK d g++R)/\kz R a b/\L R<=e
def xD.X (h:xD ai d o B f z)(a:B<=J)(b:J<B+f):J∈du ai:=
 dU h λR p c c=>p.mem_iff.mpr (hN _ (agu a b))
theorem Jv:∀{u:m×m}{g d:m}{o:aO}{c:n S}{e:m}{a:aO}{x:bm},fI aB u g d o c e a->aB.K aI (eV o) x->aB.al\/aB.L->xD c d e g aB.X (aB.e uJ):=by
 have none:∀{c:n S}{d e g:m}{Y:j},du c=[]->xD c d e g 0 Y:= λh=>⟨[],by rw[h];exact .nil,.l,fK _⟩;induction aB with
 |l=>intro u g d o c e a x C i i;rw[C.1];exact none aa
 |C aB y b f=>intro u g d o c e a x C w z;have z:=z.resolve_right id;refine pw C λP Z Q CS T A D G H=>?_;clear C;subst G H;refine dU (b A w.1 (.inl z.1)) λR p q B=>dU (f D (iN w.2) (.inl z.2)) λI E J F=>?_;rw[op z.1]at p;rw[op z.2]at E;exact⟨R++I,by rw[j6];exact p.append E,q.C J (oo A) (oo D),by rw[a6];exact vh B F⟩
 |p t=>intro u g d o c e a x C i i;rw[C.1];induction t using mg<;>exact none aa
 |o k f=>intro u g d o c e a x C i i;rw[C.1];exact none aa
 |W f t=>intro u g d o c e a x C i i;refine c9 C ?_;clear C;rintro rfl rfl i;exact⟨[d+1],by induction t using mg<;>exact .refl _,.a (uR _) .l (g2 _),br _⟩
 |h f b K=>intro u g d o c e a x C w i;refine aL C ?_;clear C;rintro P A rfl;refine dU (K A w.1 (.inl w.2)) λR p q B=>?_;rw[op w.2]at p;have r:=oo A;refine⟨(d+1)::(d+2)::(d+3)::R,?_,.a (uR _) (.a (k8 (.Lt (.b .a .r) (.b .a .W))) (.a (k8 (.Lt (.b .a .W) (.b .a .L))) q r) (k9 (.a (.b .a .W) .e) (.a (.b .a .L) .e) r)) (k9 (.a (.b .a .r) .e) (.a (.b .a .L) .e) r),by show L R+3<=3+b.e uJ;rw[xN];exact iE B 3⟩;rw[j6,j6];exact(ye.trans (p.append_left [d+2,d+3])).cons (d+1)
 |c k f v v s K=>
  intro u g d o c e a x C w i;refine sh C λv Q r F T U v i V X G H=>?_;clear C;subst G H;have y:=w.1;refine bd (Js V (by rw[(by rw[uk y.ep,sj]:fc ((fW s (d+2)).map (·.1))=fc s.D)];exact y.f)) λOL ajl=>dU (K X (iN (iN w.2.2)) (.inr y.ep)) λR p q B=>?_;have M:=BD V;have N:=oo X;refine⟨(d+1)::(uK s.X (d+2)++(du r++R)),?_,.a (uR _) ((agt (b:=d+1+s.X) (k8 (.Lt (.b .a .r) (.b .a .W))) (jk [_] [_] (.a (.b (.b .a .W) (.d .a)) (.b (.b (.b .a .r) (.d .a)) .r)))).C (OL.C q M N) (jk [_] [_] (.a .a (.b .a (.d .a)))) (jh M N)) (hA [_] [_,_,_] (.a .a .e) (.a (.b .a (.d .a)) .l) (.a .l .e) M N),?_⟩
  ·show(du (r++(.bw _::(U++[S.a (d+1)])))).Perm _;rw[j6];show(du r++du (U++[S.a (d+1)])).Perm _;rw[j6];exact(aiO _ ye).trans ((K5 _ [d+1] _).trans (((p.append_left _).trans (K5 ..)).cons (d+1)))
  ·rw[hM,a6,a6,ags];show s.X+(L (du r)+L R)+1<=6+s.e uJ;exact hB [_,_,_,_] [] (.le (.b (.b .a (.b .e .l)) .r) (.b (.y 6) .s)) (.le .e .W) (.le .a .L) (.le .l .s) ajl y.d B
 |d r b r s v=>intro u g d o c e a x C w z;obtain⟨P,Z,Q,CS,T,A,D,rfl,rfl⟩:=Jt C;refine dU (s A w.1.1 (.inl w.1.2)) λR p q B=>dU (v D (iN w.2) (.inr (z.resolve_left id))) λI E J F=>?_;rw[op w.1.2]at p;refine⟨R++I,?_,q.C J (oo A) (oo D),by rw[a6];exact vh B F⟩;rw[j6,Ju];exact((p.append E).trans (K5 ..)).cons g
def q5:fB (ai++dY)=fB ai++fB dY:=kb ..
def q6:gv (ai++dY)=gv ai++gv dY:=kb ..
def BJ {a b:n aE}:(a++b).flatMap kV=a.flatMap kV++b.flatMap kV:=kb ..
def BK:(fd d (.h d o)).s.flatMap kV=[]:=by unfold fd;cases an (d=fQ d)<;>rfl
def BL:(aE.q 1 f (fd d (.h d o)) (.p B p)).ab=[]:=by refine(?_:((fd d (.h d o)).s++[aE.p B p]).flatMap kV=[]);rw[BJ,BK];rfl
def agv:(jv d o J).ab=[]:=by
 delta jv;cases an (d=19)
 ·cases an (d=20)
  ·cases an (d=12)
   ·exact BL
   ·cases an (J< -2147483648\/2147483647<J)<;>rfl
  ·rfl
 ·rfl
def Jw:(ef d o J aF B).ab=[]:=by
 delta ef;cases an (aF=0)
 ·cases an (J=13)
  ·cases an (d=12)
   ·unfold ih;cases an (d=12)<;>rfl
   ·rfl
  ·rfl
 ·unfold ih;cases an (d=12)<;>rfl
theorem agw (h:eW cH=aN):(jZ d o B cH).ab=cH.y.map (·.2):=by
 induction cH using iD with
 |c J=>exact agv
 |gM x=>show(nq d o x).ab=[];unfold nq;cases an (d=13)<;>rfl
 |a=>injection h
 |d=>show(l1 d o).ab=[];unfold l1;cases an (d=12\/d=13)<;>rfl
 |b a b f=>
  induction f using gA with
  |none=>exact Jw
  |some f=>refine(?_:((ef d o a b B).s++[aE.K 1 f]).flatMap kV=[f]);rw[BJ,show(ef d o a b B).s.flatMap kV=[]from Jw];rfl
theorem agx (g:fP d o aj cH)(h:ii d cH=af):B∈(jZ d o B cH).W:=by
 induction cH using iD with
 |b c b f=>
  have h:mI d b=true:=h;have i:=g.1;have:B∈(ef d o c b B).W:=by
   delta mI at h;delta ef;cases e:an (b=0)with
   |true=>rw[e]at h;injection h
   |false=>
    rw[e]at h;cases a:an (d=12)with
    |true=>rw[a]at h;injection h
    |false=>have a:=iF a;rw[cL (show¬c=13 from oK (CX i a).1 ⋯ ⋯ ⋯)];exact db ..
  induction f using gA with
  |none=>exact this
  |some f=>exact et.mpr (.inr (K3.mpr (by exact aL (K3.mp this) λe a j=>⟨e,hN _ a,j⟩)))
 |_=>injection h
theorem agy:∀{a:n (a3×m)}{b:j},(∀r,r∈a->eW r.1=aN)->fB (iw d o b a)=(er (a.map (·.1))).map (·.2):=by
 intro a;induction a with
 |nil=>intro c c;rfl
 |cons r t c=>intro b h;refine(?_:((jZ d o ((b:m)+1) r.1).ab++[])++fB (iw d o _ t)=(r.1.y++er (t.map (·.1))).map (·.2));rw[c λx e=>h x (dy _ e),agw (h r (db ..)),ca,eu]
def agz:∀{a:n (a3×m)}{b:j},g0 (iw d o b a)=a.map (·.2):=by
 intro a;induction a with
 |nil=>intro c;rfl
 |cons r t c=>intro b;exact cp (r.2::·) c
def agA:∀{a:n (a3×m)}{b:j},L (iw d o b a)=L a:=by
 intro a;induction a with
 |nil=>intro c;rfl
 |cons r t c=>intro b;exact cp (·+1) c
theorem agB:∀{f:n (a3×m)}{c:j},(∀r,r∈f->ii d r.1=af->∀B,B∈(jZ d o B r.1).W)->∀(i:j) g e,(l2 d f)[i]?=O (g,e)->((c+i+1:j):m)∈gv (iw d o c f)/\e=32:=by
 intro f;induction f with
 |nil=>intro a a i g e h;injection h
 |cons r t k=>
  intro c p i g e h;have h:(j0 (ii d r.1)++l2 d t)[i]?=O (g,e):=h;refine(?_:_∈((jZ d o ((c:m)+1) r.1).W++[])++gv (iw d o (c+L (j0 (ii d r.1))) t)/\_);have k:= λc i=>k (c:=c) (λx a=>p x (dy _ a)) i g e;cases l:ii d r.1 with
  |false=>rw[l]at h;exact bd (k c i h) λa b=>⟨gC _ a,b⟩
  |true=>
   rw[l]at h;induction i using dx with
   |zero=>cases h;exact⟨hN _ (hN _ (p r (db ..) l _)),aa⟩
   |succ i=>refine bd (k (c+1) i h) λa b=>⟨gC _ ?_,b⟩;rw[show c+1+i+1=c+(i+1)+1 by exact m7 (.b (.b (.b .a .r) .e) .r) (.b (.b .a (.b .e .r)) .r)]at a;exact a
theorem agC:fB (gO d o B J aF au)=[]:=by
 have t:(kt d o B).ab=[]:=by delta kt iv;cases iL d<;>cases !an (B=0)<;>first|exact BK|(show((fd d (.h d o)).s++[aE.p _ _]).flatMap kV=[];rw[BJ,BK];rfl)
 delta gO;cases iL d
 ·refine(?_:((kt d o B).ab++[])++[]=[]);rw[t];rfl
 ·refine(?_:(_++[])++((_++[])++(((kt d o B).ab++[])++[]))=[]);rw[t,BL,BL];rfl
theorem agD:∀{b:n aO}{a:m},fB (eC d o aF a b)=[]:=by
 intro b;induction b with
 |nil=>intro c;rfl
 |cons r t c=>
  intro a;rw[(show eC d o aF a (r::t)=(match an (1<L r)with|true=>gO d o (dX r) (fA r) (a+1) (gc r aF (dX r) (fA r+1-dX r).toNat)++eC d o aF (a+1) t|false=>eC d o aF a t)from aa)];cases an (1<L r)
  ·exact c
  ·rw[q5,agC,c];rfl
theorem agE:ha aj d aF=aF\/∃p,p∈aj/\ha aj d aF=p.2:=by
 induction aj with
 |nil=>exact .inl aa
 |cons p r c=>
  by_cases h:p.1=d
  ·exact .inr ⟨p,db ..,cP h⟩
  ·rw[show ha (p::r) d aF=ha r d aF from ce h];exact c.imp id λ⟨q,a,b⟩=>⟨q,dy _ a,b⟩
def agF:∀{J:j}{x:m},d∈gc aj aF x J->d=aF\/∃p,p∈aj/\d=p.2:=by
 intro J;induction J with
 |zero=>intro a h;cases h
 |succ J a=>
  intro x h;rcases fw.mp h with rfl|h
  ·exact agE
  ·exact a h
theorem agG:∀{f:n aO}{c:m},B∈g0 (eC d o aF c f)->B=aF\/B∈du (eC d o aF c f)\/∃p,p∈f.flatten/\B=p.2:=by
 intro f;induction f with
 |nil=>intro a h;cases h
 |cons r t g=>
  intro c h;rw[(show eC d o aF c (r::t)=(match an (1<L r)with|true=>gO d o (dX r) (fA r) (c+1) (gc r aF (dX r) (fA r+1-dX r).toNat)++eC d o aF (c+1) t|false=>eC d o aF c t)from aa)]at h⊢;cases e:an (1<L r)with
  |false=>rw[e]at h;exact(g h).imp id λq=>q.imp id λ⟨p,a,b⟩=>⟨p,gC _ a,b⟩
  |true=>
   rw[e]at h;have h:B∈g0 (_++_):=h;rw[q4]at h;rw[j6,Jp];rcases et.mp h with h|h
   ·have i:B∈gc r aF (dX r) (fA r+1-dX r).toNat++[]->B∈gc r aF (dX r) (fA r+1-dX r).toNat:= λh=>by rw[ca]at h;exact h
    have:B=c+1\/B∈gc r aF (dX r) (fA r+1-dX r).toNat:=by
     delta gO at h;cases j:iL d with
     |false=>rw[j]at h;exact .inr (i h)
     |true=>
      rw[j]at h;refine gQ (fw.mp h) (λh=>?_) λh=>?_
      ·exact .inl h
      rcases fw.mp h with h|h
      ·exact .inl h
      ·exact .inr (i h)
    rcases this with rfl|h
    ·exact .inr (.inl (hN _ (cz.mpr aa)))
    ·exact(agF h).imp id λ⟨p,a,b⟩=>.inr ⟨p,hN _ a,b⟩
   ·exact(g h).imp id λq=>q.imp (gC _) λ⟨p,a,b⟩=>⟨p,gC _ a,b⟩
theorem agH:∀{b:n aO}{a:m},L (eC d o aF a b)<=4*L (es b):=by
 intro b;induction b with
 |nil=>intro c;exact br _
 |cons r t e=>
  intro a;rw[(show eC d o aF a (r::t)=(match an (1<L r)with|true=>gO d o (dX r) (fA r) (a+1) (gc r aF (dX r) (fA r+1-dX r).toNat)++eC d o aF (a+1) t|false=>eC d o aF a t)from aa)];cases h:an (1<L r)with
  |false=>rw[show es (r::t)=es t from rp (p:= λr:aO=>an (1<L r)) (by rw[h];exact k3)];exact e
  |true=>
   rw[show es (r::t)=r::es t from m3 (p:= λr:aO=>an (1<L r)) h,hM];rw[a6];have:∀{c:bk},L (gO d o (dX r) (fA r) (a+1) c)<=4:= λ{c}=>by delta gO;cases iL d<;>exact ea aa
   have:=this (c:=gc r aF (dX r) (fA r+1-dX r).toNat);exact fE (.le (.b .a .e) (.f 4 (.b .l .r))) (.le .e (.f 4 .l)) (.le .a (.y 4)) e this
noncomputable def oq:jX:=⟨1,3,5,29⟩
noncomputable def ot:jX:=⟨1,2,1,4⟩
def ou (h:aB.al):aB.D=[]:=by induction aB using aW.casesOn<;>first|rfl|exact h.elim
theorem agI:∀{e:aO}{h:bm},aB.K aI e h->aB.al\/aB.L->L aB.y<=aB.e ot+L (er aB.D):=by
 induction aB with
 |l=>intro a a a a;exact fK _
 |C aB y f g=>intro e h w c;have c:=c.resolve_right id;have d:=f w.1 (.inl c.1);have b:=g w.2 (.inl c.2);rw[ou c.1]at d;rw[ou c.2]at b;refine(?_:L (aB.y++y.y)<=aB.e ot+y.e ot+0);rw[a6];exact kc (.le (.b .a .e) (.b (.b .l .s) .K)) (.le .a .l) (.le .e .s) d b
 |p t=>intro a a a a;induction t using mg<;>exact ea aa
 |o k f=>intro a a a a;exact br _
 |W f t=>intro a a a a;induction t using mg<;>exact ea aa
 |h f b i=>intro e h w a;have d:=i w.1 (.inl w.2);rw[ou w.2]at d;exact(ck (.le (.b .a .r) (.b (.b .r .e) .K)) (.le .a .e) d:L b.y+1<=1+b.e ot+0)
 |c k f g g s i=>intro e h w a;exact(fE (.le (.b .a .r) (.b (.b (.y 4) .e) .K)) (.le .a (.b .e .l)) (.le .l .L) (i w.2.2 (.inr w.1.ep)) w.1.X.2:L s.y+1<=4+s.e ot+0)
 |d g b r j m=>intro e h w c;have d:=j w.1.1 (.inl w.1.2);rw[ou w.1.2]at d;refine(?_:L (er g++(b.y++r.y))<=b.e ot+r.e ot+L (er (g++r.D)));rw[sa,a6,a6,a6];exact hA [_,_,_,_,_,_] [] (.le (.b .a (.b .e .l)) (.b (.b .s .X) (.b .a .ab))) (.le .l (.b .X .ab)) (.le .e .s) (m w.2 (.inr (c.resolve_left id))) d
theorem agJ:∀{g:m}{r:a3×m},r∈fW aB g->g<=r.2/\r.2<g+aB.X:=by
 induction aB with
 |d a b t _ c=>
  intro g r h;rcases et.mp (show r∈(a.filter λl=>!eW l).map (λl=>(l,g))++fW t (g+1)from h)with h|h
  ·refine aL (f2.mp h) ?_;rintro l b rfl;exact k0 (k8 (.a .a .a)) (jk [_] [_] (.Lt .a (.b .a (.d (.b .a .r)))))
  ·have:=c h;exact k0 (go [_] [_,_] (.a .a .e) (.e (.a (.b .a .r) .e) (.Lt .e (.b (.b .a .r) (.d .a)))) [1,1,0] this) (go [_] [_,_] (.Lt .a (.b .e (.d (.b .a .r)))) (.e (.a (.b .e .r) .a) (.Lt .a (.b (.b .e .r) (.d .a)))) [1,0,1] this)
 |_=>intro g r h;cases h
theorem agK:∀{g d:m},ft aB g d=d\/g<=ft aB g d/\ft aB g d<g+aB.X:=by
 induction aB with
 |d c b t _ e=>
  intro g d;refine(?_:ft t (g+1) (match c.any eW with|true=>g|false=>d)=d\/g<=ft t (g+1) (match c.any eW with|true=>g|false=>d)/\ft t (g+1) (match c.any eW with|true=>g|false=>d)<g+(t.X+1:j));cases c.any eW with
  |true=>have:=e (g:=g+1) (d:=g);show ft t (g+1) g=d\/g<=ft t (g+1) g/\ft t (g+1) g<_;exact Or.inr (k0 (this.elim (λa=>go [] [_,_] (.a .a .e) (.Eq .e .a) [1,-1] a) λa=>go [_] [_,_] (.a .a .e) (.e (.a (.b .a .r) .e) (.Lt .e (.b (.b .a .r) (.d .a)))) [1,1,0] a) (this.elim (λa=>gp [_] [_,_] (.Lt .a (.b .e (.d (.b .a .r)))) (.Eq .a .e) a) λa=>go [_] [_,_] (.Lt .a (.b .e (.d (.b .a .r)))) (.e (.a (.b .e .r) .a) (.Lt .a (.b (.b .e .r) (.d .a)))) [1,0,1] a))
  |false=>have:=e (g:=g+1) (d:=d);show ft t (g+1) d=d\/g<=ft t (g+1) d/\ft t (g+1) d<_;exact this.elim (λa=>Or.inl (a)) λa=>Or.inr (k0 (go [_] [_,_] (.a .a .e) (.e (.a (.b .a .r) .e) (.Lt .e (.b (.b .a .r) (.d .a)))) [1,1,0] a) (go [_] [_,_] (.Lt .a (.b .e (.d (.b .a .r)))) (.e (.a (.b .e .r) .a) (.Lt .a (.b (.b .e .r) (.d .a)))) [1,0,1] a))
 |_=>intro g d;exact .inl aa
structure xE (x:aW)(d:m×m)(f:bm)(g:j)(c:n S)(a:aO):Prop where
 b:∀l,l∈g0 c->l∈du c\/l=d.1\/f=af/\l=d.2
 K:((er x.D).map (·.2)++fB c).Perm (x.y.map (·.2))
 aw:∀(i:j) k e,a[i]?=O (k,e)->((g+i+1:j):m)∈gv c/\e=32
 W:L c<=x.e oq+2*x.X
theorem agL:(∀l,l∈g0 (lu d o ai)->l∈g0 ai\/l=d)/\fB (lu d o ai)=fB ai/\gv (lu d o ai)=gv ai/\L (lu d o ai)<=L ai+2:=by
 rw[q4,q5,q6,a6];cases lr (.a o::ai)
 ·exact⟨λl h=>.inl (by have h:l∈g0 ai++[]:=h;rw[ca]at h;exact h),ca _,ca _,fJ _⟩
 ·exact⟨λl h=>(et.mp h).imp id λh=>cz.mp h,ca _,ca _,br _⟩
theorem Jx (h:ny.ok bs):(∀l,l∈g0 [j3 cu ny]->l=cu.1\/bs=af/\l=cu.2)/\fB [j3 cu ny]=ny.y.map (·.2):=by
 induction ny using mg with
 |a=>exact⟨λl h=>.inl (cz.mp h),aa⟩
 |b=>exact⟨λl a=>.inr ⟨h,cz.mp a⟩,aa⟩
 |c f=>exact⟨λl h=>(by cases h),aa⟩
theorem BM {P:j->ar->Prop} (a:∀i x,ct[i]?=O x->P i x) (b:∀i x,nn[i]?=O x->P (L ct+i) x):∀i x,(ct++nn)[i]?=O x->P i x:= λi x h=>by
 by_cases e:i<L ct
 ·rw[ek e]at h;exact a i x h
 ·rw[hh (lC e)]at h;have:=b _ x h;rwa [show L ct+(i-L ct)=i by exact m6 [_,_,_] [] (.b .a .e) .l (.l (.b .e .a) .l) cc [1,-1] (dc (hw.mp e))]at this
theorem xE.ab (b:xE aB cu bs f ai aj)(c:xE gb cu bs (f+L aj) dY dt):(∀l,l∈g0 (ai++dY)->l∈du (ai++dY)\/l=cu.1\/bs=af/\l=cu.2)/\
 ∀(i:j) k a,(aj++dt)[i]?=O (k,a)->((f+i+1:j):m)∈gv (ai++dY)/\a=32:=by
 rw[q4,j6,q6];refine⟨λl h=>gQ (et.mp h) (λh=>(b.b l h).imp (hN _) id) λh=>(c.b l h).imp (gC _) id,λi k a=>BM (P:= λi p=>((f+i+1:j):m)∈gv ai++gv dY/\p.2=32) (λi aB h=>bd (b.aw i aB.1 aB.2 h) λp q=>⟨hN _ p,q⟩) (λi aB h=>?_) i (k,a)⟩
 ·refine bd (c.aw i aB.1 aB.2 h) λp q=>?_;rw[ka f]at p;exact⟨gC _ p,q⟩
theorem agM (T:pu d o B f fk J aF dt ai)(D:L (fc (fk.map (·.1)))<=9)(w:∀r,r∈fk->eW r.1=aN/\fP d o aj r.1):
 (∀l,l∈g0 ai->l∈du ai\/l=B\/∃r,r∈fk/\l=r.2)/\fB ai=(er (fk.map (·.1))).map (·.2)/\(∀(i:j) s e,dt[i]?=O (s,e)->((f+i+1:j):m)∈gv ai/\e=32)/\L ai<=L fk+8:=by
 have z:=(Js T D).2;refine ru T.C ?_;rintro a u I E rfl rfl A;have g:∀r,r∈hJ u fk->r∈fk:= λr h=>(rl.mp h).1;refine⟨λl h=>?_,?_,λi s e h=>?_,?_⟩
 ·rw[q4,agz]at h;rw[j6];rcases et.mp h with h|h
  ·rcases agG h with h|h|⟨p,b,rfl⟩
   ·exact .inr (.inl h)
   ·exact .inl (hN _ h)
   ·rcases A with rfl|⟨_,F,v,C⟩
    ·cases b
    ·rw[C.X]at b;exact ey ⟨_,by rw[v];exact nI b,aa⟩
  ·refine aL (f2.mp h) ?_;rintro r c rfl;exact ey ⟨r,g r c,aa⟩
 ·rw[q5,agD,agy λr c=>(w r (g r c)).1];refine(?_:(er ((hJ u fk).map (·.1))).map (·.2)=_);rcases A with rfl|⟨_,F,v,C⟩
  ·rw[show hJ u fk=fk from aiM.mpr λr q=>(by rw[E];cases r.1<;>rfl)]
  ·have G:∀{l:n a3},(∀x,x∈l->x.y=[])->er l=[]:= λ{l}=>by
    induction l with
    |nil=>intro q;rfl
    |cons x t k=>intro h;show x.y++er t=[];rw[h x (db ..),k λy H=>h y (dy _ H)];rfl
   have y:∀x,x∈fk->x.1.y=[]:= λx k=>by rw[v]at k;refine aL (f2.mp k) ?_;rintro p q rfl;rfl
   have t:∀{a:n (a3×m)},(∀x,x∈a->x∈fk)->er (a.map (·.1))=[]:= λ{a} h=>G λx k=>by refine aL (f2.mp k) ?_;rintro p b rfl;exact y p (h p b)
   rw[t g,t λq h=>h]
 ·rw[q6];obtain⟨p,q⟩:=agB (o:=o) (λr c k T=>agx (w r (g r c)).2 k) i s e h;exact⟨gC _ p,q⟩
 ·rw[a6,agA];have k:L (es a)<=2:=by rw[j6,BI,ca,(Jq (d:=d) (o:=o) (B:=B) (c:=a) (a:=J)).2]at z;exact z
  exact gE [_,_,_,_] [] (.le (.b .a .e) (.b .l (.y 8))) (.le .a (.f 4 .s)) (.le .e .l) (.le .s .W) [1,1,1,4] (agH (d:=d) (o:=o) (aF:=B) (b:=a) (a:=J)) (yf ..) k
theorem Jy:∀{q:m×m}{g d:m}{u:aO}{c:n S}{G:m}{a:aO}{B:bm},fI aB q g d u c G a->aB.K aI (eV u) B->aB.al\/aB.L->xE aB q B (L u) c a:=by
 have OL:∀{ajD:j}{c:n S}(i:j)(k H:m),([]:aO)[i]?=O (k,H)->((ajD+i+1:j):m)∈gv c/\H=32:= λi k H h=>by injection h
 induction aB with
 |l=>intro q g d u c G a B C I I;refine c9 C ?_;clear C;rintro rfl rfl rfl;exact⟨λo h=>(by cases h),.refl _,OL,br _⟩
 |C aB y b e=>
  intro q g d u c G a B C w E;have E:=E.resolve_right id;refine pw C λx M P T U V ajo ajp ajq=>?_;clear C;subst ajp ajq;have A:=b V w.1 (.inl E.1);have D:=e ajo (iN w.2) (.inl E.2);rw[a6]at D;have J:=A.K;have ajl:=D.K;rw[ou E.1]at J;rw[ou E.2]at ajl;refine⟨(A.ab D).1,?_,(A.ab D).2,?_⟩
  ·show(fB (x++T)).Perm ((aB.y++y.y).map (·.2));rw[q5,eu];exact aiP J ajl
  ·have M:=A.W;have ajr:=D.W;rw[op E.1]at M;rw[op E.2]at ajr;show _<=aB.e oq+y.e oq+0;rw[a6];exact kc (.le (.b .a .e) (.b (.b .l .s) .K)) (.le .a (.b .l (.f 2 .K))) (.le .e (.b .s (.f 2 .K))) M ajr
 |p t=>intro q g d u c G a B C w I;refine c9 C ?_;clear C;rintro rfl rfl rfl;exact bd (Jx (cu:=q) (ny:=t) w) λX Q=>⟨λo h=>.inr (X o h),.of_eq Q,OL,ea aa⟩
 |o k f=>intro q g d u c G a B C I I;refine c9 C ?_;clear C;rintro rfl rfl rfl;exact⟨λo h=>(by cases h),.refl _,OL,br _⟩
 |W f t=>
  intro q g d u c G a B C w I;refine c9 C ?_;clear C;rintro rfl rfl rfl;refine bd (Jx (cu:=q) (ny:=t) w) λX Q=>⟨λo h=>?_,.of_eq ((by induction t using mg<;>rfl:fB [.b (.K 1 f) 0 (d+1),j3 q t,.a (d+1)]=f::fB [j3 q t]).trans (cp (f::·) Q)),OL,ea aa⟩;rw[(by induction t using mg<;>rfl:g0 [.b (.K 1 f) 0 (d+1),j3 q t,.a (d+1)]=(d+1)::g0 [j3 q t])]at h;rw[(by induction t using mg<;>rfl:du [.b (.K 1 f) 0 (d+1),j3 q t,.a (d+1)]=[d+1])];rcases fw.mp h with h|h
  ·exact .inl (cz.mpr h)
  ·exact .inr (X o h)
 |h f b R=>
  intro q g d u c G a B C w I;refine aL C ?_;clear C;rintro x V rfl;have A:=R V w.1 (.inl w.2);have J:=A.K;have M:=A.W;rw[ou w.2]at J;rw[op w.2]at M;have p:du ([.bw (d+2),.a (d+1)]++x++[.a (d+2),.b (.K 1 f) 1 (d+1),.a (d+3)])=(d+1)::(du x++[d+2,d+3]):=by rw[j6,j6];rfl
  have r:g0 ([.bw (d+2),.a (d+1)]++x++[.a (d+2),.b (.K 1 f) 1 (d+1),.a (d+3)])=(d+2)::(g0 x++[d+1]):=by rw[q4,q4];rfl
  have s:fB ([.bw (d+2),.a (d+1)]++x++[.a (d+2),.b (.K 1 f) 1 (d+1),.a (d+3)])=fB x++[f]:=by rw[q5,q5];rfl
  have v:gv ([.bw (d+2),.a (d+1)]++x++[.a (d+2),.b (.K 1 f) 1 (d+1),.a (d+3)])=gv x:=by rw[q6,q6];exact ca _
  have e:d+2∈(d+1)::(du x++[d+2,d+3]):=dy _ (gC _ (db ..));refine⟨λo h=>.inl ?_,?_,λi k H h=>(by rw[v];exact A.aw i k H h),?_⟩
  ·rw[r]at h;rw[p];rcases fw.mp h with rfl|h
   ·exact e
   rcases et.mp h with h|h
   ·rcases A.b o h with h|rfl|⟨_,rfl⟩
    ·exact dy _ (hN _ h)
    ·exact(dy _ (gC _ (dy _ (db ..))))
    ·exact e
   ·rw[cz.mp h];exact db ..
  ·rw[s];exact(ye (l₂:=[f])).trans (List.Perm.cons f J)
  ·show _<=5+b.e oq+0;rw[a6,a6];show 2+L x+3<=_;exact ck (.le (.b (.b .W .a) .L) (.b (.b (.y 5) .e) .K)) (.le .a (.b .e (.f 2 .K))) M
 |c k f ajJ ajJ s R=>
  intro q g d u c G a B C w I;refine sh C λv P y ajr U z ajJ ajv ajE ajw ajp ajq=>?_;clear C;subst ajp ajq;have K:=w.1;have ajs:(fW s (d+2)).map (·.1)=s.D.filter λo=>!eW o:=uk K.ep;obtain⟨X,Q,ajx,ajF⟩:=agM ajE (by rw[(by rw[ajs,sj]:fc ((fW s (d+2)).map (·.1))=fc s.D)];exact K.f) λr Y=>c9 (BE K.ep Y) λI ajl ajG=>⟨ajG,(λ(o:a3)(ajt:o∈s.D)=>w9 (h:=BF u) K (a:=P) ajv ajt) r.1 ajl⟩;have ajy:s.K aI (eV (u++P++U)) B:=iN (iN w.2.2);have ajm:=R ajw ajy (.inr K.ep);have ajH:er ((fW s (d+2)).map (·.1))=er s.D:=by
   rw[ajs];have:∀N:n a3,er (N.filter λo=>!eW o)=er N:= λN=>by
    induction N with
    |nil=>rfl
    |cons o t R=>induction o using iD<;>first|exact R|exact cp (_++·) R
   exact this _
  rw[ajH]at Q;have e:∀{F:S->bk}{o:bk},F (.a (d+1))=o->(.r (.d k v (.K k f))::(y++.bw (ft s (d+2) (d+1))::(z++[.a (d+1)]))).flatMap F=F (.r (.d k v (.K k f)))++(y.flatMap F++(F (.bw (ft s (d+2) (d+1)))++(z.flatMap F++o))):= λ{F o} ajt=>by simp only[CA,kb,K1,ca,ajt]
  have ajz:∀o,d+2<=o->o<d+2+s.X->o∈du y++(du z++[d+1]):= λo Z CS=>gC _ (hN _ ((Jv ajw ajy (.inr K.ep)).X Z CS));have ajA:d+1∈du y++(du z++[d+1]):=gC _ (gC _ (cz.mpr aa));have ajB:ft s (d+2) (d+1)∈du y++(du z++[d+1]):=by
   rcases agK (aB:=s) (g:=d+2) (d:=d+1)with h|⟨Z,CS⟩
   ·rw[h];exact ajA
   ·exact ajz _ Z CS
  refine⟨λo h=>?_,?_,?_,?_⟩
  ·show o∈du _\/_;rw[show du (.r (.d k v (.K k f))::(y++.bw (ft s (d+2) (d+1))::(z++[.a (d+1)])))=du y++(du z++[d+1])from(e (F:=S.bF) aa)];rw[show g0 (.r (.d k v (.K k f))::(y++.bw (ft s (d+2) (d+1))::(z++[.a (d+1)])))=g0 y++(ft s (d+2) (d+1)::(g0 z++[]))from(e (F:=S.i) aa),ca]at h;rcases et.mp h with h|h
   ·rcases X o h with h|rfl|⟨r,Y,rfl⟩
    ·exact .inl (hN _ h)
    ·exact .inl ajB
    ·exact bd (agJ Y) λZ CS=>.inl (ajz _ Z CS)
   rcases fw.mp h with rfl|h
   ·exact .inl ajB
   ·rcases ajm.b o h with h|rfl|h
    ·exact .inl (gC _ (hN _ h))
    ·exact .inl ajA
    ·exact ey h
  ·show(fB _).Perm (f::s.y.map (·.2));rw[show fB (.r (.d k v (.K k f))::(y++.bw (ft s (d+2) (d+1))::(z++[.a (d+1)])))=f::(fB y++(fB z++[]))from(e (F:=S.ab) aa),ca,Q];exact .cons f ajm.K
  ·rw[(show gv (.r (.d k v (.K k f))::(y++.bw (ft s (d+2) (d+1))::(z++[.a (d+1)])))=v::(gv y++(gv z++[]))from e (F:=S.W) aa),ca];rw[a6]at ajx;have ajC:=ajm.aw;rw[a6,a6]at ajC
   refineλi ajI H=>BM (P:= λi (p:m×m)=>((L u+i+1:j):m)∈v::(gv y++gv z)/\p.2=32) (BM (P:= λi (p:m×m)=>((L u+i+1:j):m)∈v::(gv y++gv z)/\p.2=32) (λi p h=>?_) λi p h=>?_) (λi p h=>?_) i (ajI,H)
   ·rcases ajv with⟨_,_,rfl⟩|⟨_,rfl,rfl⟩
    ·injection h
    ·induction i using dx with
     |zero=>replace h:=aY h;subst h;exact⟨db ..,aa⟩
     |succ i=>injection h
   ·refine bd (ajx i p.1 p.2 h) λajn aju=>?_;rw[ka (L u)]at ajn;exact⟨dy _ (hN _ ajn),aju⟩
   ·refine bd (ajC i p.1 p.2 h) λajn aju=>?_;rw[show L u+(L (P++U)+i)+1=L u+L P+L U+i+1 by rw[a6];exact rt [_,_,_,_] [] (.b (.b .a (.b (.b .e .l) .s)) .r) (.b (.b (.b (.b .a .e) .l) .s) .r)];exact⟨dy _ (gC _ ajn),aju⟩
  ·have Y:L (fW s (d+2))<=12:=by
    have:L ((fW s (d+2)).map (·.1))<=L s.D:=by rw[ajs];exact yf ..
    rw[cj]at this;exact aU this K.X.1
   show _<=29+s.e oq+0;rw[hM,a6,hM,a6];show L y+(L z+1+1)+1<=_;exact lI [_,_,_,_,_] [] (.le (.b (.b .a (.b (.b .e .r) .r)) .r) (.b (.b (.y 29) .l) .K)) (.le .a (.b .s (.y 8))) (.le .e (.b .l (.f 2 .X))) (.le .X .L) (.le .s (.y 12)) [1,1,1,2,1] ajF ajm.W K.d Y
 |d N b r p s=>
  intro q g d u c G a B C w E;obtain⟨x,M,P,T,U,V,ajo,rfl,rfl⟩:=Jt C;have A:=p V w.1.1 (.inl w.1.2);have D:=s ajo (iN w.2) (.inr (E.resolve_left id));rw[a6]at D;have J:=A.K;have e:=A.W;rw[ou w.1.2]at J;rw[op w.1.2]at e;refine lL (agL (d:=q.1) (o:=g) (ai:=x)) λv y z F=>⟨λo h=>?_,?_,λi k H h=>?_,?_⟩
  ·rw[q4]at h;rw[j6,Ju];rcases et.mp h with h|h
   ·rcases v o h with h|h
    ·exact(A.b o h).imp (λh=>hN _ (dy _ h)) id
    ·exact .inr (.inl h)
   ·exact(D.b o h).imp (gC _) id
  ·show((er (N++r.D)).map (·.2)++fB (lu q.1 g x++T)).Perm ((er N++(b.y++r.y)).map (·.2));rw[q5,y,sa,eu,eu,eu,bU];refine aiO _ (.trans ?_ (aiP J D.K));show List.Perm ((er r.D).map (·.2)++(fB x++fB T)) (fB x++((er r.D).map (·.2)++fB T));rw[<-bU,<-bU];exact List.Perm.append_right _ ye
  ·rw[q6,z,<-q6];exact(A.ab D).2 i k H h
  ·show _<=b.e oq+r.e oq+2*(r.X+1);rw[a6];exact hB [_,_,_,_,_,_] [] (.le (.b .a .e) (.b (.b .l .s) (.f 2 (.b .X .r)))) (.le .ab (.b .l (.f 2 .K))) (.le .a (.b .ab .W)) (.le .e (.b .s (.f 2 .X))) e F D.W
noncomputable def iO (n:j)(f:j->bm):Bool:=sE (motive:= λa=>bm) af (λk a=>Bool.and (f k) a) n
theorem mT {a:j->bm}(h:iO f a=af){k:j}(b:k<f):a k=true:=by
 induction f with
 |zero=>cases b
 |succ f c=>
  have h:(a f&&iO f a)=true:=h;rw[fu]at h;rcases Cv.mp b with b|rfl
  ·exact c h.2 b
  ·exact h.1
noncomputable def ma (N a d x y:j):Nat:=Nat.mod (Nat.div N (Nat.pow 1000 (144*a+36*d+6*x+y))) 1000
def ss (N:j):kq:=⟨ma N 0,ma N 1,ma N 2,ma N 3,ma N 4⟩
def agN (t:kq)(p:jX)(d:j):Bool:=e1 p.i (t.y d 0 0)&&iO 5 λx=>e1 p.b (t.y d (x+1) x)&&e1 p.i (t.y d (x+1) x)
def agO (t:kq)(p:jX)(d:j):Bool:=iO 5 λx=>iO (x+1) λy=>e1 (p.c+p.a+t.b (d+1) x y) (t.y d (x+1) y)&&e1 (p.a+t.l (d+1) x y) (t.y d (x+1) y)
def agP (t:kq)(d x y:j):Bool:=e1 (t.y d x y) (t.a d x y)&&iO (y+1) λz=>e1 (t.y d x y+t.y d y z) (t.a d x z)&&(e1 (t.a d x y+t.a d y z) (t.r d x z)&&(e1 (t.r d x y+t.a d y z) (t.l d x z)&&e1 (t.l d x y+t.a d y z) (t.b d x z)))
def Jz (N:j)(p:jX)(B:j):Bool:=iO 4 (agN (ss N) p)&&(iO 3 (agO (ss N) p)&&((iO 4 λd=>iO 6 λx=>iO (x+1) λy=>agP (ss N) d x y)&&iO 6 λy=>iO (y+1) λz=>e1 (p.a+ma N 3 1 5 y+(p.a+ma N 3 1 y z)) B))
theorem agQ (h:Jz f pt z=af):(ss f).aL pt/\∀y i,y<=5->i<=y->pt.a+(ss f).l 1 5 y+(pt.a+(ss f).l 1 y i)<=z:=by refine bd (gg h) λn h=>bd (gg h) λo h=>bd (gg h) λp q=>?_;have A:= λd (c:d<=3)=>gg (mT n (mU c));have z:= λd x y (c:d<3)(e:x<5)(g:y<=x)=>gg (mT (mT (mT o c) e) (mU g));have C:= λd x y (c:d<=3)(e:x<=5)(g:y<=x)=>gg (mT (mT (mT p (mU c)) (mU e)) (mU g));have m:= λd x y i (c:d<=3)(e:x<=5)(g:y<=x)(k:i<=y)=>gg (mT (C d x y c e g).2 (mU k));have l:∀{a b:j},e1 a b=af->a<=b:= λh=>ea h;exact⟨⟨λd c=>l (A d c).1,λd x c e=>(bd (gg (mT (A d c).2 e)) λa b=>⟨l a,l b⟩),λd x y c e g=>l (z d x y c e g).1,λd x y c e g=>l (z d x y c e g).2,λd x y c e g=>l (C d x y c e g).1,λd x y i c e g k=>l (m d x y i c e g k).1,λd x y i c e g k=>l (gg (m d x y i c e g k).2).1,λd x y i c e g k=>l (gg (gg (m d x y i c e g k).2).2).1,λd x y i c e g k=>l (gg (gg (m d x y i c e g k).2).2).2⟩,λy i g k=>l (mT (mT q (mU g)) (mU k))⟩
def pm (a b:j):Nat:=match e1 a b with|true=>b|false=>a
def agR (f:j->j)(n:j):Nat:=n.rec 0 λk r=>pm (f k) r
def agS (p:jX)(N a d x y:j):Nat:=a.rec (x.rec (match f1 y 0 with|true=>p.i|false=>0) λu b=>pm (match f1 y u with|true=>pm p.b p.i|false=>0) (match kC d 3&&e1 y u with|true=>pm (p.c+p.a+ma N 4 (d+1) u y) (p.a+ma N 3 (d+1) u y)|false=>0))
 λa b=>pm (match f1 a 0 with|true=>ma N 0 d x y|false=>0) (agR (λk=>ma N a d x (y+k)+ma N (match f1 a 0 with|true=>0|false=>1) d (y+k) y) (x+1-y))
def xF (p:jX):Nat:=sE (motive:= λa=>j) 0 (λi N=>N+agS p N (i/36 % 5) (3-i/180) (i/6 % 6) (i % 6)*1000^(144*(i/36 % 5)+36*(3-i/180)+i % 36)) 720
def jb.le (P:jb h am aB){N:j}{p:jX}{B:j}(a:Jz N p B=af):aB.e p<=B:=bd (agQ a) λb c=>d0 (P.e p _ b) λy z d e f=>aU f (c y z d e)
def agT (P:jb h am aB):aB.e uJ<=57:=P.le (N:=xF uJ) ()
def agU (P:jb h am aB):aB.e oq<=253:=P.le (N:=xF oq) ()
def agV (P:jb h am aB):aB.e ot<=58:=P.le (N:=xF ot) ()
def agW (P:jb h am aB):aB.e jw<=610:=P.le (N:=xF jw) ()
theorem agX:∀{i:m}{p:m×m},p∈i8 i au->∃a:j,au[a]?=O p.1/\p.2=i+a:=by
 induction au with
 |nil=>intro i p h;cases h
 |cons k r b=>
  intro i p h;rcases fw.mp (show p∈(k,i)::i8 (i+1) r from h)with rfl|h
  ·exact⟨0,aa,(jg _).symm⟩
  ·exact aL (b h) λa c d=>⟨a+1,c,by rw[d,m2];show i+1+(a:m)=i+((a:m)+1);exact mi [_] [_] (.b (.b .a .r) (.d .a)) (.b .a (.b (.d .a) .r))⟩
def agY:∀{i:m},(i8 i au).map (·.2)=(hH i au).map (·.1):=by
 induction au with
 |nil=>intro i;rfl
 |cons k r a=>intro i;exact cp (i::·) a
theorem qQ.a (h:qQ aB){z:m}{i:m×m}{g d:m}{e:aO}{c:n S}{f:m}{a:aO}(C:fI aB i g d e c f a):fI aB (z,i.2) g d e c f a:=by
 revert d e c f a;apply h
 ·exactλb b b b b b b b b b C=>C
 ·intro b b b b b b b b b b d e c f a C;refine pw C λj k l o p q r s t=>?_;clear C;subst s t;exact⟨j,k,l,o,p,q,r,aa,aa⟩
structure su (b:n S)(s:aq)(d:j):Prop where
 fo:∀c,c∈b->kX s.u s.c c
 bG:uw b s.u s.c d
 a:L b<=285
theorem agZ (P:jb h am aB)(v:h.c=[])(C:fI aB (0,0) 0 0 (j5 am).u ai d aj)(G:cY (j5 am) cN aj):su ai cN (L am.u):=by
 have b:=P.a.ns;have c:aB.K am.W (eV (j5 am).u) false:=by rw[xd P.a.A.d.1];exact P.a.K
 refine aL P.a.y λw g e=>?_;rw[v]at g e;have g:am.c=w:=g;subst g;have s:cN.c=am.c:=by rw[G.c];rfl
 have o:cN.u=am.u++aj:=G.u;have e:aB.y.Perm (i8 1000 am.c):=e;refine dU (Jv C c (.inl b)) λR q x y=>?_;have f:=Jy C c (.inl b);have l:=f.W;have r:=f.K;have t:=agI c (.inl b);rw[ou b]at r t;rw[(op b)]at l q;have r:(fB ai).Perm (aB.y.map (·.2)):=r;refine⟨?_,⟨λz A=>?_,q.nodup_iff.mpr x.1,q.length_eq▸g4 (aU y (agT P)) (ea aa),?_,?_,?_,λi k B u a=>?_⟩,k' (.le .a (.y 285)) (.le .a (.b .e (.f 2 .K))) (.le .e (.y 253)) l (agU P)⟩
 ·rw[s];refine agr C c ⟨[],by rw[ca];exact o⟩ λp D=>aL (agX (e.subset D)) λj E F=>?_;rw[F];exact Wy E
 ·by_cases j:z∈du ai
  ·exact j
  ·rcases(Jy (P.b.a (z:=z+1) C) c (.inl b)).b z A with a|a|⟨a,_⟩
   ·exact a
   ·have a:z=z+1:=a;exact(Lk a).elim
   ·injection a
 ·rw[s,<-agY];exact r.trans (e.map _)
 ·rw[r.length_eq,cj];exact k' (.lt .a (.y 64)) (.le .a .e) (.le .e (.y 58)) t (agV P)
 ·rw[o,a6];exact cZ _ _
 ·rw[o,hh u]at a;have:=f.aw _ k B a;rw[show L (j5 am).u+(i-L am.u)+1=i+1 by show L am.u+_+1=_;exact m6 [_,_,_] [] (.b (.b .a .e) .r) (.b .l .r) (.l (.b .e .a) .l) cc [1,-1] (dc (u))]at this;exact this
theorem ag0 (h:eZ k aB a0 c7 cT):aB.K aI aj bs->cT=.b->bs=true:=by
 induction h with
 |l=>intro b h;injection h
 |C _ _ _ a=>intro w;exact a w.2
 |d _ _ a=>intro w;exact a w.1
 |p h=>intro w cT;cases h<;>first|exact w|injection cT
 |o=>intro b h;injection h
 |v _ h=>intro w cT;cases h<;>first|exact w|injection cT
 |w=>intro b h;injection h
 |i=>intro b h;injection h
 |q _ _ _ _ _ a=>exact a
 |u _ _ c _=>intro b h;rcases c with rfl|rfl<;>injection h
 | @c c f d g s a0 d cT _ a=>
   intro w h;refine a (xk (k:=k) (p:=g) (d:=c) (a0:=a0.bF f) (Bx w.2.2 w.1.ep (br _)) ⟨bY,aW.aP s⟩).1 ?_;cases cT with
   |b=>rfl
   |_=>injection h
theorem eZ.y (h:eZ k aB a0 c7 cT)(n:qQ aB)(m:aB.K aI aj aN):cT=.bw\/cT=.c:=by
 have e:∀{aB:aW}{a0 c7:bT}{cT:dv},f1 aB.ctorIdx 6=af->eZ k aB a0 c7 cT->cT≠.a:= λ{aB a0 c7 cT} r h=>by
  induction h using eZ.casesOn with
  | @c b f a g s a0 a cT h=>intro j;induction cT using pV<;>injection j
  |_=>exact b6 r k3
 have f:cT≠.a:=by
  revert h;clear m;apply n
  ·intro a a a a a h;exact e aa h
  ·intro a a a a a a a a a a h;cases h with
   |C _ b=>exact e aa b
   |d b _=>exact e aa b
 induction cT using pV with
 |bw=>exact .inl aa
 |c=>exact .inr aa
 |a=>exact b6 aa f
 |b=>exact b6 aa (λj=>by have:=ag0 h m j;injection this)
theorem kx.s (h:kx k aI ai f az z gf)(o:oj ai){l:j}(m:fC az (10+l)):fC gf l:=by
 have i:∀{n:S}{e:aE},ai[f]?=O n->e∈n.s->fC az (e.cB+l):= λp q=>m.bz (vg (o _ (jK p) _ q).2 l);induction h using kx.casesOn with
 |a _=>exact m.bz (ev _ _)
 |bw _ _ _=>exact m.bz (ev _ _)
 |b h g _ _=>exact g.s (i h (cz.mpr aa))
 |c h g _=>exact g.s (i h (cz.mpr aa))
 |d h g _ _ _ _=>exact jC g (i h (cz.mpr aa))
 |f h g _=>exact jC g (i h (cz.mpr aa))
 |r h g=>exact jC g (i h (cz.mpr aa))
theorem dS.fe (h:dS k aI ai f az aK qZ)(g:oj ai)(i:L ai<=285):∀{t:j},mR ai t f az->fC az (100000-10*t)->∃b,mR ai b aK qZ/\fC qZ (100000-10*b):=by
 induction h with
 |D=>exactλd b=>⟨_,d,b⟩
 | @a f z aK az gf qZ h _ l=>intro t d b;refine bu h.a.lt λc m=>?_;have e:=(cs.mp m).1;have:=d.lt i e;exact l (d.e h e) (h.a.s g (b.bz (g6 (.le (.b (.y 10) .a) .e) (.l (.b .a (.f 10 (.b .l .r))) (.y 100000)) (.l (.b .e (.f 10 .l)) (.y 100000)) [1,1,-1] (dc (lJ (.le (.f 10 (.b .a .r)) (.y 100000)) (.le (.b .a .r) (.y 2000)) [1,10] this)) (dc (lJ (.le (.f 10 .a) (.y 100000)) (.le (.b .a .r) (.y 2000)) [1,10] this)))))
theorem ag1 (D:fX am.e)(P:jb h am aB)(C:fI aB (0,0) 0 0 (j5 am).u ai d aj)(F:su ai cN (L am.u))(k:eZ am.e aB ⟨0,[]⟩ a0 cT):
 iP a0/\oj ai/\∃r a b,dS am.e am.W ai 0 ⟨⟨0,[]⟩,[]⟩ r a/\oi ai r a cT.u b/\b.c=a0:=by
 have t:aB.K am.W (eV (j5 am).u) false:=by rw[xd P.a.A.d.1];exact P.a.K
 have o:oj ai:= λu l cT w=>⟨ea ((F.fo u l).1 cT w).y,ea ((F.fo u l).1 cT w).cB⟩;have s:=k.y P.b t;refine aL ((agd (ai:=ai) D k).1 aN (0,0) 0 0 (j5 am).u ai d aj 0 ⟨⟨0,[]⟩,[]⟩ 0 0 t C (λi aB k=>by rw[m1];exact k) aa (g2 _) ⟨λq=>(by rcases s with rfl|rfl<;>injection q),λq=>(by rcases s with rfl|rfl<;>injection q)⟩) ?_;rintro q rfl b;have y:∀{r:j}{i:bQ}{v:x},dS am.e am.W ai 0 ⟨⟨0,[]⟩,[]⟩ r i->oi ai r i v q->iP q.c:= λ{r i v} E G=>by
  refine aL (E.fe o F.a (fK _) (⟨br _,br _,br _⟩)) λf a z=>?_;have e:=F.a;unfold mR at a;have g:L ai*min i.c.r 6<=6*L ai:=Nat.mul_comm 6 _▸pK _ (rc _ _);have A:=z.C;have B:=z.b;cases G with
  |y=>exact⟨m5 [_,_,_,_,_] [] (.le .a (.y 90000)) (.le .e (.y 285)) (.le .l (.f 6 .e)) (.le (.b .a .s) (.y 100000)) (.le .X (.b .l .e)) (.l (.b .s (.f 10 .X)) (.y 100000)) [1,70,10,1,10,-1] e g A a (dc (gE [_,_,_] [] (.le (.f 10 .a) (.y 100000)) (.le .e (.y 285)) (.le .l (.f 6 .e)) (.le .a (.b .l .e)) [1,70,10,10] e g a)),m5 [_,_,_,_,_] [] (.le .a (.y 90000)) (.le .e (.y 285)) (.le .l (.f 6 .e)) (.le (.b .a .s) (.y 100000)) (.le .X (.b .l .e)) (.l (.b .s (.f 10 .X)) (.y 100000)) [1,70,10,1,10,-1] e g B a (dc (gE [_,_,_] [] (.le (.f 10 .a) (.y 100000)) (.le .e (.y 285)) (.le .l (.f 6 .e)) (.le .a (.b .l .e)) [1,70,10,10] e g a))⟩
  | @c p f f l=>have:=(cs.mp l).1;refine⟨?_,jL (toaeS a g e this B)⟩;rw[a6];refine(?_:_+1<=_);exact toaeS a g e this A
 rcases s with rfl|rfl
 ·have b:dS am.e am.W ai 0 ⟨⟨0,[]⟩,[]⟩ (0+L ai) q:=b;rw[m1]at b;exact⟨y b .y,o,_,_,_,b,.y,aa⟩
 ·exact gq b λr i a e=>⟨y a e,o,_,_,_,a,e,aa⟩
theorem xG (l:q0 q V k I d f bj aI eB z [p] a0 c7 cT){b r:E}{c:j}{w:x} (m:h.l[c]?=O (.y b)) (n:h.e=bj)(s:h.W=aI)(t:cK h f ⟨a0,eB⟩ o)
 (K:∀a M N,cK a f ⟨c7,eB⟩ o->eg f h a->(cT=.bw->ds (ol q (V z)) ⟨b,O (aT c)⟩ r (jE (aT (f+2)) w M N) (D (a.b k d I)) G)/\(cT≠.bw->G (.c cT.u) (jE (aT (f+2)) w M N) (D (a.b k d I)))):ds (ol q (V z)) ⟨b,O (aT c)⟩ (p::r) (jE (aT (f+2)) w M N) (D (h.b k d I)) G:=
 k0 (bO m) (l h o [] [] w M N (λe L H=>nQ.rec (motive:= λg=>Prop) (ds (ol q (V z)) ⟨b,O (aT c)⟩ r L H G) (λg=>G (.c g) L H) e) n s t λa M N g i=>⟨λe=>(K a M N g i).1 e,λe=>(K a M N g i).2 e⟩)
theorem JA (a:h.l[z]?=O (.y bj)) (b:w .C (D (h.b k d I))):ds (ol q (V 20)) ⟨bj,O (aT z)⟩ [] (jE (aT (f+2)) (.c (aT z)) M N) (D (h.b k d I)) (hX (ch w) λL H=>a' (aw q (V 20) 9) [tW] L H (ch w)):=
 k0 (bO a) (bq (bx.mpr (IR.mpr b)))
theorem ag2 (S:b4 q V)(P:fX bj){F:aO}{x:aW}{e:dv}(R:qQ x)(a:eZ bj x a0 c7 e)(w:x.K aI F aN)(l:x.i<=16)(n:iP c7){m:j}(z:f+3<=m) (c:h.l[m]?=O (.y x.u)) (s:h.e=bj)(t:h.W=aI)(A:cK h f ⟨a0,eB⟩ o){Q:bg}
 (K:∀i,cK i f ⟨c7,eB⟩ o->eg f h i->Q e.u (D (i.b k d I))):V 21 1310 [.c (aT (f+2)),.c (aT m)] (D (h.b k d I)) Q:=by
 refine S.r (IP.mpr (bx.mpr (IQ.mpr (ba (bO c) ((?_:ds (ol q (V 20)) ⟨x.u,O (aT m)⟩ x.u (jE (aT (f+2)) (.c (aT m)) ab ab) (D (h.b k d I)) _))))));have u:∀{y:aW}{a0 c7:bT}{e:dv},eZ bj y a0 c7 e->y.K aI F aN->y.i<=16->iP c7->q0 q V k I d f bj aI eB 20 y.u a0 c7 e:= λa w l n=>(afV S P a _ 17 w (gy l) n).1;revert c l w a;apply R
 ·intro v T U g y a w l c;refine xG (u a w l n) c s t A λi M N p b=>⟨λr=>JA (b.u m _ (.inr z) c) ?_,λB=>K i p b⟩;have:=K i p b;rw[r]at this;exact this
 ·intro v T U g y W W W W W a w l c;have G:=(pT.mp l).1;cases a with
  | @C _ _ _ W _ _ a v=>refine xG (u a w.1 G (n.W v.le)) c s t A λi M N p b=>⟨λB=>?_,λC=>b6 aa C⟩;have H:=b.u m _ (.inr z) c;refine xG (u v w.2 ((pT.mp l).2) n) H (b.W.2.trans s) (b.W.1.trans t) p λJ M N L E=>⟨λr=>JA (E.u m _ (.inr z) H) ?_,λB=>K J L (b.y E)⟩;have:=K J L (b.y E);rw[r]at this;exact this
  |d a r=>exact xG (u a w.1 G n) c s t A λi M N p b=>⟨λC=>b6 C r,λB=>K i p b⟩
abbrev ly (a:ac)(b c d e f g h i j:be)(l:aS):aS:=eJ a b (c::d::e::f::g::h::i::j::l)
theorem ag3:aw q A 9 r7 (ly ak M N Y ag ah ao aJ bc bA (b'::ax)) c hu=Internal.mk c (.y []) λa c=>Internal.mk c (.h []) λb c=>Internal.mk c (.K [(85,.c 18),(83,.c 3),(3,.e 0),(79,a),(71,b),(84,.e 0)]) λz c=>hu .next (ly ak M N Y ag ah ao aJ bc bA (O z::ax)) c:=()
theorem ag4:aw q A 9 qD (ly ak M N Y ag ah ao aJ bc bA (b'::cy::ax)) c hu=Internal.mk c (.y []) λa c=>Internal.mk c (.h []) λb c=>Internal.mk c (.K [(85,.c 18),(83,.c 3),(3,.e 0),(79,a),(71,b),(84,.e 0)]) λz c=>hu .next (ly ak M N Y ag ah ao aJ bc bA (b'::O z::ax)) c:=()
def ag5:aw q A 9 pj (ly ak (O U) N Y ag ah ao aJ bc bA (O p::cy::co::ax)) c hu=A 1310 [p,U] c λy c=>hu .next (ly ak (O U) N Y ag ah ao aJ bc bA (O p::cy::O y::ax)) c:=()
theorem ag6:aw q A 9 pk (ly ak M N (O aM) ag ah ao aJ bc bA (O p::O U::O cC::ax)) c hu=gH (al q) aM 45 c λo=>A 1338 [U,o] c λz c=>dg c z cC λb=>bB b (eP U 79 c λa=>eP p 79 c λd=>dg c a d λb=>bB b (eP U 3 c λa=>eP p 3 c λd=>dg c a d λb=>hu (.c (.d b)) (ly ak M N (O aM) ag ah ao aJ bc bA (O p::O U::O cC::ax)) c) (hu (.c (.d b)) (ly ak M N (O aM) ag ah ao aJ bc bA (O p::O U::O cC::ax)) c)) (hu (.c (.d b)) (ly ak M N (O aM) ag ah ao aJ bc bA (O p::O U::O cC::ax)) c):=()
def nA (s:aq):aq:=s.C [.y [],.h [],.K (qX (L s.l) 0 0)]
def JB:cK (nA h) (L h.l) ⟨⟨0,[]⟩,[]⟩ 0:=⟨l6 (c:=h.l) (z:=0) aa,l6 (c:=h.l) (z:=1) aa,l6 (c:=h.l) (z:=2) aa,fK _,fK _⟩
def xH:L (nA h).l=L h.l+3:=a6 ..
theorem cK.l (b:cK h f az d)(c:eg z h am)(e:f+2<z\/z+3<=f):cK am f az d:=
 ⟨c.u _ _ (e.elim (λa=>jN (.K (.lt .a .e) (.le (.b .e .L) .a)) (.lt (.b .a .W) .e) [1,0,1] a) λa=>jN (.K (.lt .a .e) (.le (.b .e .L) .a)) (.le (.b .e .L) .a) [0,1,1] a) b.d,c.u _ _ (e.elim (λa=>jN (.K (.lt (.b .a .r) .e) (.le (.b .e .L) (.b .a .r))) (.lt (.b .a .W) .e) [1,0,1] a) λa=>jN (.K (.lt (.b .a .r) .e) (.le (.b .e .L) (.b .a .r))) (.le (.b .e .L) .a) [0,1,1] a) b.c,c.u _ _ (e.elim (λa=>jN (.K (.lt (.b .a .W) .e) (.le (.b .e .L) (.b .a .W))) (.lt (.b .a .W) .e) [1,0,1] a) λa=>jN (.K (.lt (.b .a .W) .e) (.le (.b .e .L) (.b .a .W))) (.le (.b .e .L) .a) [0,1,1] a) b.a,b.b,b.iO⟩
theorem fm.y (F:fm h k f c aC am ai d){K:bg} (m:∀g b z,fm h k f g b (nA am) ai d->(∃e,b=aC++e)->b[aT (L am.l+2)]?=O z->K (.c z) g):
 Internal.mk c (.y []) λa c=>Internal.mk c (.h []) λe c=>Internal.mk c (.K [(85,.c 18),(83,.c 3),(3,.e 0),(79,a),(71,e),(84,.e 0)]) λz c=>K z c:=by
 have e:=F.X (aZ:=.y []) (df:=.y []) (.y .l);have a:=e.X (aZ:=.h []) (df:=.h []) (.h .l);have i:L am.l=L am.l:=aa;have j:=so (aZ:=.y []) i;have l:=a.X (aZ:=.K (qX (L am.l) 0 0)) (df:=.K [(85,.c 18),(83,.c 3),(3,.e 0),(79,.c (L c)),(71,.c (L (c++[aX.y []]))),(84,.e 0)]) (.K (.a (.c (dj (a.a.2.2 18 ⋯))) (.a (.c (dj (a.a.2.2 3 ⋯))) (.a (.e 0) (.a (.c (dj (dj (F.K i)))) (.a (.c (dj (e.K j))) (.a (.e 0) .l)))))));rw[kU,kU]at l;exact hY (hY (hY (m _ _ _ l ⟨[L c]++[L (c++[aX.y []])]++[L ((c++[aX.y []])++[aX.h []])],by simp only[bU]⟩ (a.K (so (aZ:=.h []) j)))))
theorem JC (A:eY c aC (D (am.b k d [])))(e:cK am f az o) (g:aC[aT (f+2)]?=O z):∃b a,c[z]?=O (.K b)/\bH b 79=O (.c a)/\c[a]?=O (.y (az.c.a.map x.e))/\bH b 3=O (.e az.c.r):=by
 refine aL (A.e _ _ _ g (bO e.a)) λq b r=>?_;cases r with
 |K r=>refine aL (r.b (k:=79) (v:=.c (aT f)) aa) λw h i=>aL (r.b (k:=3) (v:=.e az.c.r) aa) λq l n=>?_;refine aL i.u ?_;rintro a rfl p;cases n;exact⟨_,a,b,h,A.y p (bO e.d) (gZ.K _),l⟩
def ag7 (A:eY c aC (D (am.b k d []))) (a:aC[75]?=O (L (D h)+0)) (b:aC[76]?=O (L (D h)+1)) (e:cS (.c (L (D h)+1))):gH (al q) (.c (L (D h)+0)) 45 c cS:=A.ab a aa aa aa b e
def ag8 (a:cT=.bw\/cT=.c)(k:gI af):dg c cT.u cT.u gI:=by rcases a with rfl|rfl<;>exact k
theorem ag9 (b:b4 q V)(C:23<=z){t s:aq}{x:aW}{B ajn:j}{E:cd}{g:n S}{ajo:m}{l:bT}{e:dv}(F:fm t x.u B c E s g ajo)(H:fX t.e)(I:s.e=t.e)(J:s.W=t.W)(ajp:qQ x)(w:x.K t.W t.u aN)(ajq:x.i<=16)(ajr:eZ t.e x ⟨0,[]⟩ l e)(o:e=.bw\/e=.c)(ajs:iP l)(K:su g s ajn)(ajt:oj g){r:j}{Q R:bQ}(aju:dS t.e t.W g 0 ⟨⟨0,[]⟩,[]⟩ r Q)(ajv:oi g r Q e.u R)(ajw:R.c=l)(ajx:∀h c,G (.c (.d af)) h c):
 a' (aw q (ik q (V z) (f+9)) 9) [r7,qD,pj,pk] (ly ak (O (.c B)) M (O (.c (L (D t)+0))) N Y ag ah ao aJ [bc,bA,b']) c G:=by
 refine bx.mpr (ag3.mpr (F.y (K:= λp c=>hX G (λh c=>a' (aw q (ik q (V z) (f+9)) 9) [qD,pj,pk] h c G) .next (ly ak (O (.c B)) M (O (.c (L (D t)+0))) N Y ag ah ao aJ [O p,bA,b']) c) λajK ajK ajy ajz T a=>bq (bx.mpr (ag4.mpr
  (ajz.y (K:= λp c=>hX G (λh c=>a' (aw q (ik q (V z) (f+9)) 9) [pj,pk] h c G) .next (ly ak (O (.c B)) M (O (.c (L (D t)+0))) N Y ag ah ao aJ [O (.c ajy),O p,b']) c) λk k k i U d=>bq (bx.mpr (ag5.mpr ?_)))))))
 refine bu T ?_;clear T;rintro ajA rfl;refine bu U ?_;clear U;rintro W rfl;have a:=dj (nn:=W) a;rw[xH]at d;have X:L (nA (nA s)).l=L s.l+6:=by rw[xH,xH]
 have ajB:cK ((nA (nA s)).C [.y x.u]) (L s.l+3) ⟨⟨0,[]⟩,[]⟩ 0:=by have:=JB (h:=nA s);rw[xH]at this;exact this.C
 refine mL aa (b.c4 (show 21<=z by exact aU ⋯ C) (w' b (m:=[.c (aT (L s.l+2)),.c (aT (L s.l+6))]) (i.r.b i.b i.fe (.y x.aw)) (.a (.c (dj a)) (.a (.c (by rw[<-X,<-i.l];exact jz:(E++ajA++W++[B])[aT (s.l.length+6)]?=some B)) .l)) (ag2 b H ajp ajr w ajq ajs (em (.le (.b .a .L) (.b .a (.y 6)))) (by rw[<-X];exact jz:((nA (nA s)).C [.y x.u]).l[s.l.length+6]?=some (.y x.u)) I J JB.C.C λajK ajC u y ajK ajK P=>bq (bx.mpr (ag6.mpr ?_)))));have v:y=e.u:=by have:=P.val;rcases o with rfl|rfl<;>cases this<;>rfl
 subst v;refine aL P.ext ?_;rintro Z rfl ajD;have A:=i.a;refine ag7 P.r (dj (dj A.1)) (dj (dj A.2.1)) ?_;have a:=dj (nn:=[B]++Z) a;have d:=dj (nn:=[B]++Z) d;rw[<-bU]at a d;refine mL aa (b.c4 C (w' b (m:=[.c (aT (L s.l+3+2)),.c 76]) P.r (.a (.c d) (.a (.c (dj (dj A.2.1))) .l)) (afq b H ajt K.a K.bG.d aju ajv (u.W.2.trans I) (u.W.1.trans J) (ajB.l u (.inr (br _))) ⟨br _,br _,br _⟩ λajK ajK ajE ajF y ajK ajK k=>?_)));have v:y=e.u:=by have:=k.val;rcases o with rfl|rfl<;>cases this<;>rfl
 subst v;refine aL k.ext ?_;rintro ajK rfl ajD;refine gG (JC k.r (ajC.l ajF (.inl (hi _))) (dj a)) λajK ajK CS ajG ajH ajI=>gG (JC k.r ajE (dj d)) λajK ajK OL ajJ ajl ajm=>?_;rw[ajw]at ajl ajm;refine ag8 o (gw OL ajJ (gw CS ajG (sn ajl ajH (gw OL ajm (gw CS ajI (pz aa (ajx _ _)))))))
theorem xI {a:ar->bk}:∀{l:n ar},(∀c,c∈l->L (a c)<=f)->L (l.flatMap a)<=L l*f
 |[],_=>fK _
 |c::l,h=>by rw[CA,a6,hM,Nat.succ_mul];have:=xI (l:=l) λc b=>h c (dy _ b);exact kc (.le (.b .a .e) (.b .l .s)) (.le .e .l) (.le .a .s) this (h c (db ..))
def aha (x:aE):L (pA x)<=1:=by
 induction x using s0<;>first|exact br _|exact fK _
theorem kX.a (h:kX aj au eX):L eX.W<=120/\L eX.i<=120:=by
 have a:∀e:aE,e∈eX.s->L e.W<=120:= λe b=>by have:=xI (l:=e.s) (a:=pA) λx d=>aha x;have c:=ea (h.1 e b).kO;exact aU this (aU (he (Nat.mul_one _)) c)
 constructor
 ·have:=xI (l:=eX.s) (a:=aE.W) a;exact aU this (aiQ 120 (by induction eX using sY<;>exact ea aa:eX.s.length<=1))
 ·induction eX using sY with
  |d e c=>exact h.2.2
  |_=>exact ea aa
abbrev JD:n H:=[z',Aa,Ab,Ac,Ad,Ae,Af,Ag,Ah,Ai,Aj,Ak,Al,wK,tY,tZ,t0,t1,t2,t3,t4,t5,t6,t7,r5,qy,qz,r6,qA,qB,qC,r7,qD,pj,pk]
def ahb:bM bK (al q) A 1376 [.h ak] [] w=a' (aw q A 9) (wJ::qw::qx::JD) (ja ak ab ab) [] (ch w):=()
theorem ahc (e:q ak=O (au.map x.e))(g:L au<=63)(h:∀a b d f,(∀c,ej c a a)->(∀c,ej c b b)->hI d 0->fX f->a' (aw q A 9) JD (ja ak (O (.c 2)) (O (.c 3))) [a,b,.y d,.y f] (ch w)):
 bM bK (al q) A 1376 [.h ak] [] w:=ahb.mpr (abr e g h)
def ahd (S:b4 q V):wP V 2:=by have a:r' V 0:=Av S (Ax S (.inl aa));have b:r' V 1:=Av S (Ax S (.inr ⟨0,aa,(AE S a),a⟩));exact AE S (Av S (Ax S (.inr ⟨1,aa,(AE S b),b⟩)))
def ahe (S:b4 q V){b:ac}{c:E}{H:Z}(h:bM bK (al q) (ik q (V 110) (f+9)) b c H w):V (110+(f+9)+1) b c H w:=
 S.e (λa a a a h=>np S (N:=110) (λa a a a h=>h) h) h
noncomputable abbrev BN (a b:aX)(c d:E):aq:=⟨a,b,d,c,0,5,[],[],[],[],[],[]⟩
def ahf (a:hI k 0):dH (BN aZ df k I):=
 ⟨a,⟨aa,.nil,λi j b h=>by(induction i using dx<;>injection h)⟩,aa,λp h=>by(cases h),g2 _,br _,λp h=>by(cases h),λp h=>by(cases h),λp h=>by(cases h)⟩
noncomputable abbrev BO:aS:=[ab,ab,ab,ab,ab,ab,ab,ab]
def uw.c4 (u:hL h am)(a:uw ai h.u h.c f):uw ai am.u am.c f:=by rw[u.c];exact a
def su.c4 (u:hL h am)(a:su ai h f):su ai am f:=by rw[u.c];exact⟨a.fo,a.bG,a.a⟩
theorem ahg (p:b4 q V)(u:23<=z){v t s:aq}{x:aW}{w:j}{H:Z}{J:cd}{i:n S}{K:m}{M:aO}(N:v.c=[])(k:fX t.e)(P:jb v t x)(a:H7 t x (w+75) H J s i K M){Q y:be}(R:∀a H,G (.c (.d af)) a H):
 a' (aw q (ik q (V z) (f+9)) 9) [r5,qy,qz,r6,qA,qB,qC,r7,qD,pj,pk] (lw ak (O (.c (w+75))) (O (.e (L t.u+1:j))) (O (.c (L (D t)+0))) Q y ab [ab,ab,ab,ab,ab,ab]) H G:=by
 have b:=agZ P N a.H a.d;have A:∀{B:S->bk},(∀c,c∈i->L (B c)<=120)->L (i.flatMap B)<=40000:= λh=>by have:=xI h;exact aU this (aU (aiQ 120 b.a) ⋯)
 refine aeb p (aU ⋯ u) (⟨a.r,a.ext,a.fe,a.b⟩) a.d.b (λc d=>(b.fo c d).ok) (A λc d=>(b.fo c d).a.1) (aU (hy b.bG.px) ⋯) (aU (hy b.bG.an) ⋯) (A λc d=>(b.fo c d).a.2) λe e C e y E F l T=>aes E F.b F T (b.bG.c4 l) λg e e e=>eO ((eZ.r k (M:=t.W) (N:=t.u) x P.a.K).1 P.a.ns ⟨0,[]⟩) λe e o=>?_;obtain⟨U,W,r,e,e,X,Y,CS⟩:=ag1 k P a.H b o;have I:C.e=t.e/\C.W=t.W:=by rw[l.c];exact(by rw[a.d.c];exact⟨aa,aa⟩:s.e=t.e/\s.W=t.W)
 exact ag9 p u E.u k I.1 I.2 P.b P.a.K P.a.i o (o.y P.b P.a.K) U (b.c4 l) W X Y CS R
theorem fX.cB (h:fX k):∀v,v∈k->cB 9 v=true:= λv a=>by rcases h.2 v a with rfl|rfl<;>rfl
theorem ahh (S:b4 q V)(g:106<=z){a c:aX}{r h:E}{t:aq}{l:aW}(u:∀d,ej d a a)(v:∀d,ej d c c)(w:fX h)(P:jb (BN a c r h) t l)(e:gu t 200000) (y:t.l[0]?=O (.y l.u)) (A:∀i H,G (.c (.d af)) i H):
 a' (aw q (ik q (V z) (f+9)) 9) [tY,tZ,t0,t1,t2,t3,t4,t5,t6,t7,r5,qy,qz,r6,qA,qB,qC,r7,qD,pj,pk] (eJ ak (O (.c (0+75))) (ab::ab::ab::BO)) (D t) G:=by
 have b:=P.a.A;have k:=P.a.u.e;have n:fX t.e:=(show t.e=h from cp Prod.fst k)▸w;have e:L t.c+L t.u+200000<=800000:=e;have o:=agW P;refine abN (ax:=BO) S (aU ⋯ g) ?_;rw[show(L (x.C::t.d.map hV):m)=((L t.u+1:j):m) by rw[hM,cj,b.a.1]];refine ab0 S g b P.a.K P.b P.a.i y (abU b ((show t.h=a from cp (λp=>p.2.1) k)▸u) ((show t.k=c from cp (λp=>p.2.2) k)▸v) n.cB) ⟨abO b (ck (.lt .a (.y 800000)) (.le (.b (.b .e .a) (.y 200000)) (.y 800000)) e),ec (.le (.b .K .a) (.y 850)) (.le .a (.y 610)) o,?_,λp B=>.inl (b.d.1 p B)⟩ λH d s s s s s i=>ahg S (aU ⋯ g) aa n P i A
 ·rw[cj,kG];exact fE (.le (.b .a .e) (.y 700000)) (.le (.b (.b .l .a) (.y 200000)) (.y 800000)) (.le .e (.y 610)) e o
theorem ahi (S:b4 q V){l:bk}(e:q ak=O (l.map x.e))(a:L l<=63)(b:∀H,w (.d af) H):V (110+(0+9)+1) 1376 [.h ak] [] w:=by
 refine ahe (f:=0) S (ahc e a λc d f g h i j k=>?_)
 rewrite [abs]
 exact bx.mpr (abu (c:=200000) (l:=ab::ab::ab::BO) (s:=BN c d f g) S (ahd S) ⋯ (ahf j) aa (by show 0+0+_<=_;decide) λt p P m n o=>bq (ahh S ⋯ h i k P m n λo H=>b H))
def BP (P:b5):dC DictEntry:=(mF (gr P) 3).getD #[]
def BQ (P:b5):dC DictEntry:=(mF (gr P) 0).getD #[]
def BR (P:b5):aH->Q gs:=tR (gr P) wj (BP P) (BQ P)
noncomputable def JE (p:b0):Nat:=match f1 p.line 48 with|true=>2|false=>match f1 p.line 0 with|true=>1|false=>0
def j7 (P:b5)(l:n (j×jW)):Prop:=(l.map λp=>FJ (gr P) (BR P) JE 3 0 p.1)=l.map λp=>O p.2
def ahj (P:b5):(mF (gr P) 3=O (BP P)/\mG (BP P)=af)/\mF (gr P) 0=O (BQ P)/\mG (BQ P)=true:=⟨⟨(),()⟩,(),()⟩
theorem sv (k:j)(a:(ct.take k).map lT=(ct.take k).map xJ)(b:(ct.drop k).map lT=(ct.drop k).map xJ):ct.map lT=ct.map xJ:=by
 have e:∀(lT:ar->e4),ct.map lT=(ct.take k).map lT++(ct.drop k).map lT:= λlT=>by rw[<-eu,ah4]
 rw[e lT,e xJ,a,b]
def ep (i:j):n (j×jW):=i.rec wL.e λa l=>l.drop 18
def ahk (P:b5):j7 P ((ep 0).take 18):=by unfold j7;rfl'
def ahl (P:b5):j7 P ((ep 1).take 18):=by unfold j7;rfl'
def ahm (P:b5):j7 P ((ep 2).take 18):=by unfold j7;rfl'
def ahn (P:b5):j7 P ((ep 3).take 18):=by unfold j7;rfl'
def aho (P:b5):j7 P ((ep 4).take 18):=by unfold j7;rfl'
def ahp (P:b5):j7 P ((ep 5).take 18):=by unfold j7;rfl'
def ahq (P:b5):j7 P (ep 6):=by unfold j7;rfl'
def ahr (P:b5):j7 P wL.e:=
 sv 18 (ahk P) (sv 18 (ahl P) (sv 18 (ahm P) (sv 18 (ahn P) (sv 18 (aho P) (sv 18 (ahp P) (ahq P))))))
noncomputable def ahs (h:fS)(a:ac):Addr:=match h.get? a with|some o=>(match o.data with|.cls b=>b.ns|_=>a)|none=>a
def aht:n Addr:=wl.flatMap λp=>p.2.map (·.2)
def ahu:n Addr:=zv.flatMap λp=>match p.2 with|.h a=>[a]|_=>[]
def q7 (P:b5):Frag:=tS (gr P) (FN++FN.map (ahs (gr P))++wj++aht++ahu)
noncomputable def BS (K:Frag)(C:ac)(d:jW):Bool:=match d with
 |.h a=>vf K C&&k1 K (.ref C) "__init__"==O (O (.ref a))&&typeIn K (.ref a)==O (.type "function")
 |.a=>vf K C&&k1 K (.ref C) "__init__"==O (O (.builtin "object.__init__"))
 |_=>aN
def ahv (P:b5):(wk.all λp=>p.2.all λn=>yH (q7 P) p.1 n)=true:=()
def ahw (P:b5):(wl.all λp=>p.2.all λq=>vK (q7 P) p.1 q.1 q.2)=true:=()
def ahx (P:b5):(wj.all λf=>keepIn (q7 P) (.ref f))=true:=()
def ahy (P:b5):(zv.all λp=>BS (q7 P) p.1 p.2)=true:=()
def ahz (P:b5):we (gr P) 59=O FK:=()
def ahA (P:b5):we (gr P) 60=O FL:=()
def ahB (P:b5):we (gr P) 297=O FM:=()
def ahC (P:b5):((gr P).get? pQ).isSome=true:=()
def ahD (P:b5):((mF (gr P) cStatics).any λa=>mG a&&(mf a "sys.recursionlimit").isNone)=true:=()
theorem uL {l:n (j×ar)}(e:lX l f=O bW):(f,bW)∈l:=by
 induction l with
 |nil=>injection e
 |cons p r a=>
  have e:(match f1 p.1 f with|true=>O p.2|false=>lX r f)=O bW:=e;cases q:f1 p.1 f with
  |true=>rw[q]at e;replace e:=aY e;subst e;rw[<-oI q];exact db ..
  |false=>rw[q]at e;exact dy _ (a e)
theorem ahE {t:qE}{d:jW}(e:t.i f=O d):(f,d)∈t.e:=by
 induction t with
 |a=>injection e
 |d k a c b l r g h=>
  have e:(match f1 k f with|true=>O (.d a c b)|false=>match kC f k with|true=>l.i f|false=>r.i f)=O d:=e;show(f,d)∈l.e++(k,.d a c b)::r.e;cases q:f1 k f with
  |true=>rw[q]at e;replace e:=aY e;subst e;rw[<-oI q];simp
  |false=>
   rw[q]at e;have e:(match kC f k with|true=>l.i f|false=>r.i f)=O d:=e;cases z:kC f k with
   |true=>rw[z]at e;exact hN _ (g e)
   |false=>rw[z]at e;exact gC _ (dy _ (h e))
section
variable(kY:∀a K,(gr eo.params).get? a=O K->t.b.heap.get? a=O K)
include kY
theorem ahF:∀f d,bK f=O d->zi t (BR eo.params) f d:=by
 intro f d e;unfold bK at e;cases q:wL.i f with
 |some j=>rw[q]at e;replace e:=aY e;subst e;have m:=ahE q;refine c9 (ahj eo.params) ?_;intro a b c;obtain⟨g,i⟩:=a;refine QZ kY (QT kY g i b c) (r:=JE) (u:=3) (w:=0) ?_;have:=ahr eo.params;unfold j7 at this;have:=List.map_inj_left.mp this _ m;exact this
 |none=>
  rw[q]at e;have m:=uL e;have:=mZ.mp (ahy eo.params) _ m;induction d using jW.casesOn with
  |d=>injection this
  |h a=>simp only[BS,fu,xZ]at this;exact⟨q7 eo.params,zt kY _,this.1.1,this.1.2,this.2⟩
  |a=>simp only[BS,fu,xZ]at this;exact⟨q7 eo.params,zt kY _,this.1,this.2⟩
theorem ahG (b:t.P=al q)(h:∀a l,q a=O l->∃g n,t.b.heap.get? a=O {cls:=.type "list",data:=.seq g n}/\bp ⟨t.b,[]⟩ g.toList l/\L l<=de):d9 t:=by
 refine⟨λa l e=>?_,λa l e=>h a l (by rw[b]at e;exact e),?_,q7 eo.params,zt kY _,λC n e=>?_,λC n f e=>?_,λf e=>?_⟩
 ·rw[b]at e;have m:=uL (show lX zu a=O l from e);simp only[zu,fw,Prod.mk.injEq,m0,or_false]at m;rcases m with⟨rfl,rfl⟩|⟨rfl,rfl⟩|⟨rfl,rfl⟩
  ·exact⟨⋯,zq kY (ahz eo.params)⟩
  ·exact⟨⋯,zq kY (ahA eo.params)⟩
  ·exact⟨⋯,zq kY (ahB eo.params)⟩
 ·have:=ahC eo.params;exact bu (Kz.mp this) λo e=>⟨o,kY _ _ e⟩
 ·rw[b]at e;have e:(match lX wk C with|some l=>l.any (f1 n)|none=>aN)=true:=e;cases c:lX wk C with
  |none=>rw[c]at e;injection e
  |some l=>rw[c]at e;refine aL (Kv.mp e) λm i d=>?_;have:=mZ.mp (mZ.mp (ahv eo.params) _ (uL c)) _ i;rw[oI d];exact this
 ·rw[b]at e;obtain⟨l,c,d⟩:=c6 (show(lX wl C).bind (λl=>lX l n)=O f from e);exact mZ.mp (mZ.mp (ahw eo.params) _ (uL c)) _ (uL d)
 ·rw[b]at e;exact mZ.mp (ahx eo.params) _ (aiN.mp e)
theorem ahH:t.b.heap.NoLimit:=by
 have:=ahD eo.params;cases q:mF (gr eo.params) cStatics with
 |none=>rw[q]at this;injection this
 |some a=>rw[q]at this;have this:(mG a&&(mf a "sys.recursionlimit").isNone)=true:=this;rw[fu]at this;exact⟨_,wf kY q this.1,zs this.2⟩
theorem ahI (c:t.P=al q)(g:∀a l,q a=O l->∃d n,t.b.heap.get? a=O {cls:=.type "list",data:=.seq d n}/\bp ⟨t.b,[]⟩ d.toList l/\L l<=de){n:j}{C:aQ}(h:∀f b H Q,C f b H Q->jS t n f b H Q){f:ac}{b:E}{H:Z}{Q:bg}
 (i:bM bK (al q) C f b H Q):jS t (n+1) f b H Q:=
 Qx (ahG kY c g) (G:=BR eo.params) (λx a e=>by rw[c];exact QU e) (ahH kY) (ahF kY) ⟨n,C,h⟩ (by rw[c];exact i)
end
set_option maxRecDepth 10000
def JF (h:d1 aC k I):L k=L I:=h.r (P:= λk I=>L k=L I) aa λa a b=>cp (·+1) b
def q8 (g:bl)(v:ae)(c:x):Prop:=match c with
 |.C=>v=.none
 |.d b=>v=.bool b
 |.e i=>∃t,v=.int i t
 |.f u=>∃t,v=.str u t
 |.r l=>∃a b n,v=.ref a/\g.c.heap.get? a=O {cls:=.type "tuple",data:=.seq b n}/\bp g b.toList l/\L l<=de
 |.c i=>∃p:ac×ac,v=.ref p.1/\g.a[i]?=O p
 |.h a=>v=.ref a
theorem a1.D {g:bl}{v:ae}{m:x}:a1 g v m↔q8 g v m:=by
 constructor
 ·intro j;induction j using pO with
  |C=>rfl
  |d=>rfl
  |e=>exact⟨_,aa⟩
  |f=>exact⟨_,aa⟩
  |r a b i=>exact⟨_,_,_,aa,a,b,i⟩
  |c k=>exact⟨_,aa,k⟩
  |h=>rfl
 ·intro j;induction m using eh with
  |C=>exact j▸.C
  |d b=>exact j▸.d b
  |e i=>exact bu j λt k=>k▸.e i t
  |f u=>exact bu j λt k=>k▸.f u t
  |r l=>exact ke j λa l n k p q o=>k▸.r p q o
  |c i=>exact aL j λp k q=>k▸.c q
  |h a=>exact j▸.h a
def BU (g:bl)(b:n (ar×ae))(a:n (ar×x)):Prop:=match a with
 |[]=>b=[]
 |c::a=>∃v d,b=(c.1,v)::d/\a1 g v c.2/\dM g d a
theorem dM.D:dM v kf fg↔BU v kf fg:=by
 constructor
 ·intro h;induction h using dM.casesOn with
  |l=>rfl
  |a c b=>exact⟨_,_,aa,c,b⟩
 ·intro h;induction fg using cv with
  |nil=>exact h▸.l
  |cons d fg=>exact d0 h λd d e c b=>e▸.a c b
def BV (g:bl)(c:n eL)(a:n (j×x)):Prop:=match a with
 |[]=>c=[]
 |b::a=>∃y t v d,c=⟨y,.str (bG b.1) t,v⟩::d/\b.1<L eF/\a1 g v b.2/\e3 g d a
theorem e3.D:e3 v lS cg↔BV v lS cg:=by
 constructor
 ·intro h;induction h using e3.casesOn with
  |l=>rfl
  |a k c b=>exact⟨_,_,_,_,aa,k,c,b⟩
 ·intro h;induction cg using cv with
  |nil=>exact h▸.l
  |cons d cg=>exact nL h λy t d d e k c b=>e▸.a k c b
def uM (g:bl)(b:n ae)(a:E):Prop:=match a with
 |[]=>b=[]
 |x::a=>∃v c,b=v::c/\a1 g v x/\bp g c a
theorem bp.D:bp v bv k↔uM v bv k:=by
 constructor
 ·intro h;induction h using sM with
  |l=>rfl
  |a c b=>exact⟨_,_,aa,c,b⟩
 ·intro h;induction k using cv with
  |nil=>exact h▸.l
  |cons x k=>exact d0 h λd d e c b=>e▸.a c b
def bp.W (d:uM v bv k↔uM bX bv I):bp v bv k↔bp bX bv I:=bp.D.trans (d.trans bp.D.symm)
def a1.W {g a:bl}{v:ae}{b y:x}(d:q8 g v b↔q8 a v y):a1 g v b↔a1 a v y:=a1.D.trans (d.trans a1.D.symm)
def dM.W (d:BU v kf fg↔BU bX kf jA):dM v kf fg↔dM bX kf jA:=dM.D.trans (d.trans dM.D.symm)
def e3.W (d:BV v lS cg↔BV bX lS kA):e3 v lS cg↔e3 bX lS kA:=e3.D.trans (d.trans e3.D.symm)
section
variable{jF iS:n (ac×ac)}
variable(sw:∀(r W:j),aC[r]?=O W->iS[r]?=jF[W]?)
include sw
theorem ahJ (r:dG aC p U):∀v,q8 ⟨ap,jF⟩ v U↔q8 ⟨ap,iS⟩ v p:=
 dG.rec (motive_1:= λp U c=>∀v,q8 ⟨ap,jF⟩ v U↔q8 ⟨ap,iS⟩ v p) (motive_2:= λp U c=>∀v,uM ⟨ap,jF⟩ v U↔uM ⟨ap,iS⟩ v p)
   (λc=>.rfl) (λc c=>.rfl) (λc c=>.rfl) (λc c=>.rfl) (λc c=>.rfl)
   (λr b v=>iY λa=>iY λd=>iY λn=>h6 .rfl (h6 .rfl (h6 (bp.W (b _)) (by rw[JF r]))))
   (λe v=>iY λb=>h6 .rfl (by show jF[_]?=_↔iS[_]?=_;rw[sw _ _ e]))
   (λc=>.rfl) (λc c a b v=>iY λw=>iY λd=>h6 .rfl (h6 (a1.W (a w)) (bp.W (b d)))) r
theorem xK (r:dG aC p U){v:ae}:a1 ⟨ap,jF⟩ v U↔a1 ⟨ap,iS⟩ v p:=a1.W (ahJ sw r v)
theorem JG (r:d1 aC k I):∀{v:n ae},bp ⟨ap,jF⟩ v I↔bp ⟨ap,iS⟩ v k:= λ{v}=>r.r (P:= λk I=>∀v,bp ⟨ap,jF⟩ v I↔bp ⟨ap,iS⟩ v k) (λv=>bp.W .rfl) (λa d b v=>bp.W (iY λw=>iY λc=>h6 .rfl (h6 (xK sw a) (b c)))) v
theorem JH (r:fO aC fg jA):∀{v:n (ar×ae)},dM ⟨ap,jF⟩ v jA↔dM ⟨ap,iS⟩ v fg:=by
 induction r with
 |l=>exact dM.W .rfl
 |a b _ c=>exact dM.W (iY λw=>iY λd=>h6 .rfl (h6 (xK sw b) c))
theorem ahK (r:fO aC cg kA):∀{v:n eL},e3 ⟨ap,jF⟩ v kA↔e3 ⟨ap,iS⟩ v cg:=by
 induction r with
 |l=>exact e3.W .rfl
 |a b _ c=>exact e3.W (iY λi=>iY λt=>iY λw=>iY λd=>h6 .rfl (h6 .rfl (h6 (xK sw b) c)))
end
section
variable{iS:n (ac×ac)}
variable(uN:∀(r:j) a,iS[r]?=O a->∃W,aC[r]?=O W)
include uN
theorem xL (h:a1 ⟨ap,iS⟩ bE p):∃y,dG aC p y:=
 a1.rec (motive_1:= λc p c=>∃y,dG aC p y) (motive_2:= λc p c=>∃y,d1 aC p y) ⟨_,.C⟩ (λb=>⟨_,.d b⟩) (λi c=>⟨_,.e i⟩) (λi c=>⟨_,.f i⟩) (λc c c a=>a.elim λc h=>⟨_,.r h⟩) (λe=>(uN _ _ e).elim λc h=>⟨_,.c h⟩) (λa=>⟨_,.h a⟩) ⟨_,.l⟩ (λc c a b=>a.elim λc h=>b.elim λc d=>⟨_,.a h d⟩) h
theorem ahL (h:bp ⟨ap,iS⟩ bv k):∃y,d1 aC k y:=h.r (P:= λc k=>∃y,d1 aC k y) ⟨_,.l⟩ λa c b=>(xL uN a).elim λc h=>b.elim λc d=>⟨_,.a h d⟩
theorem JI (h:dM ⟨ap,iS⟩ kf fg):∃y,fO aC fg y:=by
 induction h with
 |l=>exact⟨_,.l⟩
 |a c _ b=>exact(xL uN c).elim λd h=>b.elim λd e=>⟨_,.a h e⟩
theorem ahM (h:e3 ⟨ap,iS⟩ lS cg):∃y,fO aC cg y:=by
 induction h with
 |l=>exact⟨_,.l⟩
 |a _ c _ b=>exact(xL uN c).elim λd h=>b.elim λd e=>⟨_,.a h e⟩
end
def fO.e (r:fO aC fg jA):fg.map (·.1)=jA.map (·.1):=by
 induction r with
 |l=>rfl
 |a _ _ b=>rw[oz,oz,b]
def fO.W (r:fO aC fg jA):L fg=L jA:=by have:=cp L r.e;simpa using this
theorem fO.hR (r:fO aC cg kA):fO aC (hR cg) (hR kA):=by
 induction r with
 |l=>exact .l
 |a b _ c=>exact .a b c
theorem fO.r (r:fO aC cg kA){N:j}(h:∀q,q∈cg->q.1<N):∀q,q∈kA->q.1<N:=by
 intro q a;have:q.1∈cg.map (·.1):=by rw[r.e];exact nI a
 exact aL (f2.mp this) λp b e=>e▸h p b
def fO.s (r:fO aC cg kA){N:j}(h:∀q,q∈kA->q.1<N):∀q,q∈cg->q.1<N:=by
 intro q a;have:q.1∈kA.map (·.1):=by rw[<-r.e];exact nI a
 exact aL (f2.mp this) λp b e=>e▸h p b
def ahN {y:n (aH×x)}(r:fO aC (hR cg) y):∃m,fO aC cg m:=by
 induction cg generalizing y with
 |nil=>exact⟨_,.l⟩
 |cons p cg c=>cases r with|a d b=>exact bu (c b) λm h=>⟨_,.a d h⟩
theorem JJ (K:∀(i a:j),aC[i]?=O a->iS[i]?=jF[a]?) (r:ej aC aZ df):i3 t ⟨ap,jF⟩ iH df↔i3 t ⟨ap,iS⟩ iH aZ:=by
 induction r using ej.casesOn with
 |y r=>exact iY λb=>iY λn=>h6 .rfl (h6 (JG K r) (by rw[JF r]))
 |h r=>exact iY λb=>h6 .rfl (h6 (JH K r) (by rw[r.W]))
 |K r=>exact iY λb=>h6 .rfl (h6 (JH K r.hR) (h6 (by rw[r.W]) ⟨r.s,r.r⟩))
 |c l=>exact .rfl
 |a C r=>exact h6 .rfl (iY λc=>iY λn=>h6 .rfl (h6 (ahK K r) (by rw[r.W])))
 |b=>exact .rfl
def ej.same (r:ej aC aZ df):p3 iH df↔p3 iH aZ:=by cases r<;>exact .rfl
theorem ahO (K:∀(i:j) iH,iS[i]?=O iH->∃c,aC[i]?=O c) (h:i3 t ⟨ap,iS⟩ iH aZ):∃df,ej aC aZ df:=by
 induction aZ using hf with
 |y l=>exact d0 h λa a a q a=>bu (ahL K q) λb h=>⟨_,.y h⟩
 |h l=>exact dU h λa a q a=>bu (JI K q) λb h=>⟨_,.h h⟩
 |K l=>exact dU h λa a q a=>bu (JI K q) λb h=>bu (ahN h) λm h=>⟨_,.K h⟩
 |c l=>exact⟨_,.c l⟩
 |a C l=>obtain⟨_,_,_,_,q,_⟩:=h;exact bu (ahM K q) λb h=>⟨_,.a C h⟩
 |b=>exact⟨_,.b⟩
theorem ahP {P:j->aX->Prop}:∀{N:j},(∀a,a<N->∃o,P a o)->∃l:n aX,L l=N/\∀(a:j) o,l[a]?=O o->P a o:=by
 intro N;induction N with
 |zero=>exactλb=>⟨[],aa,λa o e=>by injection e⟩
 |succ N c=>
  intro h;refine aL (c λa b=>h a (rd b)) λl b d=>bu (h N (hi N)) λo f=>⟨l++[o],by simp[b],λa x e=>?_⟩;by_cases q:a<L l
  ·rw[ek q]at e;exact d a x e
  ·rw[hh (lC q)]at e;obtain⟨g,i⟩:a-L l=0/\o=x:=by
    cases z:a-L l with
    |zero=>rw[z]at e;exact⟨aa,by simpa using e⟩
    |succ k=>rw[z]at e;simp at e
   have:a=N:=kB (gE [_,_,_,_] [] (.le .a .e) (.l .l .e) (.l .s .K) (.l (.b .s .l) .a) [1,1,1,-1] b g (dc (hw.mp q))) (g5 [_,_,_,_] [] (.le .a .e) (.l .l .a) (.l (.b .s .l) .e) [1,-1,1] b (dc (hw.mp q)));subst this i;exact f
def BW (h:∀v s,dN v s->qd v s)(r:Result)(s:b1)(z:y3 dN r s):y3 qd r s:=by
 rcases r with e|ak
 ·exact z
 ·cases ak<;>first|exact h _ _ z|exact z.elim
def ahQ (h:∀c e,w c e->xM c e)(c:ae)(s:b1)(z:dP t v w c s):dP t v xM c s:=by obtain⟨x,e,f,a,b,d,q⟩:=z;exact⟨x,e,f,a,b,d,h _ _ q⟩
def ahR (h:∀v a,w v a->xM v a)(q:jS t f ak k c w):jS t f ak k c xM:= λA g b B R d=>yb (q A g b B R d) (BW (ahQ h))
theorem ahS (h:f<=z)(q:jS t f ak k c w):jS t z ak k c w:= λA g a B R b=>
 q A g a ⟨B.C,aU (iG (.le (.b (.b .a (.f 4 .e)) (.y 10)) (.b (.b .a (.f 4 .l)) (.y 10))) (.le .e .l) [1,4] h) B.y,aU (iG (.le (.b (.b .a (.f 20 .e)) (.y 200)) (.b (.b .a (.f 20 .l)) (.y 200))) (.le .e .l) [1,20] h) B.a⟩ R b
theorem JK (f:∀e c,mM c=af->a1 v e c->a1 ⟨v.c,jF⟩ e c){l:E}:∀{d:n ae},iq mM l=af->bp v d l->bp ⟨v.c,jF⟩ d l:=by
 induction l with
 |nil=>intro d b r;cases r;exact .l
 |cons c l g=>
  intro d h r;cases r with
  |a i b=>
   have h:(match mM c with|true=>iq mM l|false=>aN)=true:=h;cases q:mM c with
   |true=>rw[q]at h;exact .a (f _ _ q i) (g h b)
   |false=>rw[q]at h;injection h
theorem JL:∀(f:j)(b:ae)(a:x),cB f a=af->a1 v b a->a1 ⟨v.c,jF⟩ b a:=by
 intro f;induction f with
 |zero=>intro b a h r;induction r using pO<;>first|exact .C|exact .d _|exact .e _ _|exact .f _ _|exact .h _|exact b6 h k3
 |succ f g=>
  intro b a h r;induction r using pO with
  |r i k l=>exact .r i (JK g h k) l
  |c=>injection h
  |C=>constructor
  |d=>constructor
  |e=>constructor
  |f=>constructor
  |h=>constructor
theorem ahT (h:iq (cB 9) k=af)(q:jS t f ak k [] (λv a=>dE (cB 9 v) (w v c))):jS t f ak k c w:=by intro A g l B R m;have n:bi t [] ⟨g.c,[]⟩:=.l R.a R.d R.gens R.os;refine yb (q A ⟨g.c,[]⟩ l B n (JK (JL 9) h m)) (BW λv j z=>?_);obtain⟨x,p,r,a,b,d,q⟩:=z;exact bd (nR q) λs u=>bd (R.u (ap:=j) (λb o e=>d.u b o e (λ⟨i,p,e,_⟩=>by simp at e) id) d.s (b.gens.trans R.gens.symm) (b.os.trans R.os.symm)) λe i=>⟨x,c,g.a,JL (v:=⟨j,r⟩) 9 v x s a,e,i _,u⟩
theorem ahU (ajM:aC.Nodup)(X:L aC=L bb) (ajN:∀(i a:j) o,aC[i]?=O a->bb[i]?=O o->∃s,c[a]?=O s/\ej aC o s) (ajY:d1 aC I k)
 (q:jS t f ak I bb (λx C=>∀y Q F,Hc aC bb C c x y Q F->w y Q)):jS t f ak k c w:=by
 intro A g ajZ B R aj0;have ajv:∀(i a:j),aC[i]?=O a->∃o s p,bb[i]?=O o/\c[a]?=O s/\ej aC o s/\g.a[a]?=O p/\(aC.map λa=>g.a.getD a (0,0))[i]?=O p:=by intro i a e;have u:i<L bb:=X▸(cs.mp e).1;refine aL (ajN i a _ e (eM u)) λs n r=>bu (R.r n) λp G=>⟨_,s,p,eM u,n,r,G,?_⟩;rw[h4,e];show O (g.a.getD a (0,0))=_;rw[xQ,G];rfl
 generalize aj1:(aC.map λa=>g.a.getD a (0,0))=ajn at ajv;have ajH:L ajn=L bb:=by rw[<-aj1,cj,X]
 have ajO:∀(i a:j),aC[i]?=O a->ajn[i]?=g.a[a]?:= λi a e=>i0 (ajv i a e) λH H ajB H H ajw=>c9 ajw λH n G=>G.trans n.symm;have ajx:∀(i:j) p,ajn[i]?=O p->∃a,aC[i]?=O a/\g.a[a]?=O p:=by
  intro i p e;have u:i<L aC:=by rw[X,<-ajH];exact(cs.mp e).1
  refine i0 (ajv i _ (eM u)) λH H ajB H H ajw=>c9 ajw λH n G=>?_;rw[e]at G;replace G:=aY G;subst G;exact⟨_,eM u,n⟩
 have ajI:∀b,T ⟨g.c,ajn⟩ b->T g b:= λb ⟨i,p,e,J⟩=>aL (ajx i p e) λa H G=>⟨a,p,G,J⟩;have aj2:bi t bb ⟨g.c,ajn⟩:=by refine⟨ajH,λi p o e Y=>aL (ajx i p e) λa n G=>aL (ajN i a o n Y) λs m d=>⟨(JJ ajO d).mp (R.e a p s G m),d.same.mp (R.h a p s G m).2⟩,λi a p q b e ajo J M=>aL (ajx i p e) λD n G=>aL (ajx a q ajo) λl h v=>?_,λb CS=>R.f b (ajI b CS),R.a,R.d,R.gens,R.os⟩;rw[R.k D l p q b G v J M]at n;exact(List.getElem?_inj (cs.mp n).1 ajM).mp (n.trans h.symm)
 refine yb (q A ⟨g.c,ajn⟩ ajZ B aj2 ((JG ajO ajY).mp aj0)) (BW λv ajC aj3=>?_);obtain⟨x,C,V,ajD,S,OL,aj4⟩:=aj3;have ajE:L bb<=L C:=by have ajp:=S.W;apply lC;intro ajy;have:L C<L ajn:=g6 (.lt .a .e) (.l .e .l) (.lt .a .l) [1,-1,1] ajH ajy;have:=(cs.mp (OL.l _ _ (eM this))).1;have ajp:L V=L C:=ajp;have:L C<L V:=this;exact jH this ajp.symm
 have ajp:L V=L C:=S.W;have ajz:L g.a=L c:=R.W;generalize ajq:aC++(jI (L C-L bb)).map (L c+·)=F;have ajJ:L F=L C:=by rw[<-ajq];simp;exact s3 [_,_,_,_] [] (.b .a .e) .l (.l .a .s) (.l (.b .e .s) .l) cc [1,-1,-1] X (dc (ajE))
 generalize ajA:g.a++V.drop (L bb)=ajl;have ajr:∀(i a:j),F[i]?=O a->(i<L aC/\aC[i]?=O a)\/(L aC<=i/\i<L C/\a=L c+(i-L aC)):=by
  intro i a e;have u:=(cs.mp e).1;rw[<-ajq]at e;by_cases q:i<L aC
  ·rw[ek q]at e;exact .inl ⟨q,e⟩
  ·rw[hh (by exact hw.mp q),h4,sZ (by exact m5 [_,_,_,_,_,_,_] [] (.lt .a .e) (.l .l .s) (.l .X .ab) (.lt (.u 6) .X) (.l (.b .a .l) (.u 6)) (.l (.b .e .s) .ab) [1,-1,1,1,1,-1] X ajJ u (dc (hw.mp q)) (dc (ajE)))]at e;simp at e;exact .inr ⟨hw.mp q,fE (.lt .a .e) (.l .l .e) (.lt .a .l) ajJ u,e.symm⟩
 have ajF:∀(i a:j),F[i]?=O a->V[i]?=ajl[a]?:=by
  intro i a e;rcases ajr i a e with⟨m,d⟩|⟨m,d,rfl⟩
  ·refine i0 (ajv i a d) λH H p H H ajw=>c9 ajw λH n G=>?_;rw[OL.l i p G,<-ajA,ek (cs.mp n).1,n]
  ·rw[<-ajA,hh (ex (.le .a (.b .e .l)) (.l .a .e) ajz),sX];congr 1;exact yi [_,_,_,_,_,_,_] [] .a (.b .e .l) (.l .s .e) (.l .X .ab) (.l (.b (.u 6) .s) .a) (.l (.b .l .X) (.b .ab (.u 6))) [1,1,1,-1,-1] [1,-1,-1,1,1] X ajz (dc (m)) (dc (ex (.le .a (.b .e .l)) (.l .a .e) ajz))
 have ajP:∀(i:j) p,V[i]?=O p->∃a,F[i]?=O a:= λi p e=>⟨_,eM (by rw[ajJ,<-ajp];exact(cs.mp e).1)⟩;have ajK:∀a,a∈aC->a<L c:= λa K=>by refine bu (sS K) λi u=>i0 (ajv i a u) λH H p H e H=>?_;exact(cs.mp e).1
 have aj5:∀(i D a:j),F[i]?=O a->F[D]?=O a->i=D:=by
  intro i D a e ajo;rcases ajr i a e with⟨m,d⟩|⟨m,d,N⟩<;>rcases ajr D a ajo with⟨W,P⟩|⟨W,P,ajs⟩
  ·exact(List.getElem?_inj m ajM).mp (d.trans P.symm)
  ·have:=ajK a (jK d);exact s3 [_,_,_,_,_] [] .a .e (.l .l (.b .s .X)) (.lt .l .s) [0,-1,1] [0,-1,1] ajs this
  ·have:=ajK a (jK P);exact s3 [_,_,_,_,_] [] .a .e (.l .l (.b .s .X)) (.lt .l .s) [0,-1,1] [0,-1,1] N this
  ·exact yi [_,_,_,_,_,_,_] [] .a .e (.l .l (.b .s .X)) (.l .l (.b .s .ab)) (.l (.b .X (.u 6)) .a) (.l (.b .ab (.u 6)) .e) [1,-1,1,-1,1] [1,1,-1,1,-1] N ajs (dc (m)) (dc (W))
 refine bu (xL ajP ajD) λy ajQ=>?_;obtain⟨Q,ajt,ajR⟩:=ahP (P:= λa s=>(a<L c/\a∉aC/\c[a]?=O s)\/∃(i:j)(o:aX),F[i]?=O a/\C[i]?=O o/\ej F o s) (N:=L c+(L C-L bb)) (λa K=>by
  have h:∀i:j,i<L C->F[i]?=O a->∃s,ej F (C.getD i .b) s/\C[i]?=O (C.getD i .b):= λi u e=>by
   have n:C[i]?=O (C.getD i .b):=by rw[xQ,eM u];rfl
   have U:i<L V:=g6 (.lt .a .e) (.l .e .l) (.lt .a .l) [1,-1,1] ajp u;exact bu (ahO ajP (S.e i _ _ (eM U) n)) λs r=>⟨s,r,n⟩
  by_cases q:a<L c
  ·by_cases z:a∈aC
   ·refine bu (sS z) λi u=>?_;have ajG:=(cs.mp u).1;have U:F[i]?=O a:=by rw[<-ajq,ek ajG];exact u
    exact aL (h i (hB [_,_,_,_] [] (.lt .a .e) (.l .l .s) (.le .s .e) (.lt .a .l) X ajE ajG) U) λs r n=>⟨s,.inr ⟨i,_,U,n,r⟩⟩
   ·exact⟨_,.inl ⟨q,z,eM q⟩⟩
  ·have U:F[L aC+(a-L c)]?=O a:=by rw[<-ajq,hh (by exact cZ ..),h4,sZ (by exact hB [_,_,_,_,_,_] [] (.lt .a .e) (.lt .l (.b .s .e)) (.l (.b .X .s) .l) (.l (.b .a .ab) (.b .ab .X)) K (dc (hw.mp q)) (dc (cZ ..)))];simp;exact m6 [_,_,_] [] (.b .a .e) .l (.l (.b .e .a) .l) cc [1,-1] (dc (hw.mp q))
   exact aL (h _ (Ll X K q) U) λs r n=>⟨s,.inr ⟨_,_,U,n,r⟩⟩)
 have ajS:∀(i a:j) o,F[i]?=O a->C[i]?=O o->∃s,Q[a]?=O s/\ej F o s:=by
  intro i a o e Y;have K:a<L Q:=by
   have:i<L C:=(cs.mp Y).1;rcases ajr i a e with⟨m,d⟩|⟨m,d,N⟩
   ·have:=ajK a (jK d);exact g5 [_,_,_,_] [] (.lt .a .e) (.l .e (.b .l .s)) (.lt .a .l) [1,-1,1] ajt this
   ·exact Lm N ajt d m X
  refine⟨_,eM K,?_⟩;rcases ajR a _ (eM K)with⟨m,d,N⟩|⟨D,aj6,m,d,N⟩
  ·rcases ajr i a e with⟨_,P⟩|⟨W,P,ajs⟩
   ·exact b6 (jK P) d
   ·exact iV (g6 .F (.lt .a .e) (.l .a (.b .e .l)) [1,-1] m ajs)
  ·have:=aj5 i D a e m;subst this;rw[Y]at d;replace d:=aY d;subst d;exact N
 have ajT:∀a:j,a<L c->a∉aC->Q[a]?=c[a]?:=by
  intro a K z;have h:a<L Q:=g5 [_,_,_,_] [] (.lt .a .e) (.l .e (.b .l .s)) (.lt .a .l) [1,-1,1] ajt K;rcases ajR a _ (eM h)with⟨m,d,N⟩|⟨D,aj6,m,d,N⟩
  ·rw[eM h];exact N.symm
  ·rcases ajr D a m with⟨W,P⟩|⟨W,P,ajs⟩
   ·exact b6 (jK P) z
   ·exact iV (g6 .F (.lt .a .e) (.l .a (.b .e .l)) [1,-1] K ajs)
 have ajU:L ajl=L Q:=by rw[<-ajA,ajt];simp;rw[ajz,ajp]
 have aju:∀(a:j) p,ajl[a]?=O p->(a<L c/\a∉aC/\g.a[a]?=O p)\/∃i:j,F[i]?=O a/\V[i]?=O p:=by
  intro a p e;by_cases q:a<L c
  ·by_cases z:a∈aC
   ·refine bu (sS z) λi u=>?_;have ajG:=(cs.mp u).1;have U:F[i]?=O a:=by rw[<-ajq,ek ajG];exact u
    exact .inr ⟨i,U,by rw[ajF i a U];exact e⟩
   ·rw[<-ajA,ek (by exact g6 (.lt .a .e) (.l .e .l) (.lt .a .l) [1,-1,1] ajz q)]at e;exact .inl ⟨q,z,e⟩
  ·have K:a<L ajl:=(cs.mp e).1;have U:F[L aC+(a-L c)]?=O a:=by rw[<-ajq,hh (by exact cZ ..),h4,sZ (by exact CO [_,_,_,_,_,_,_,_] [] (.lt .a .e) (.l .l (.b .s .e)) (.l .X .l) (.lt .ab .X) (.l (.b (.u 6) .s) .ab) (.l (.b .a (.u 7)) (.b (.u 7) (.u 6))) ajt ajU K (dc (hw.mp q)) (dc (cZ ..)))];simp;exact m6 [_,_,_] [] (.b .a .e) .l (.l (.b .e .a) .l) cc [1,-1] (dc (hw.mp q))
   exact .inr ⟨_,U,by rw[ajF _ a U];exact e⟩
 have ajV:∀(a:j) p b,a∉aC->g.a[a]?=O p->nc b p->¬T ⟨g.c,ajn⟩ b:=by intro a p b K e M ⟨i,ajB,ajo,ajL⟩;refine aL (ajx i ajB ajo) λD n G=>?_;have:=R.k a D p ajB b e G M ajL;subst this;exact K (jK n)
 have aj7:∀(i:j) p,g.a[i]?=O p->ajl[i]?=O p:= λi p e=>by rw[<-ajA,ek (cs.mp e).1];exact e
 have ajW:gh g ⟨ajC,ajl⟩:=⟨OL.r,aj7⟩;have ajX:∀(a D:j) p q b,a<L c->a∉aC->g.a[a]?=O p->V[D]?=O q->nc b p->nc b q->False:=by intro a D p q b m d N W M ajL;have CS:T ⟨ajC,V⟩ b:=⟨D,q,W,ajL⟩;have ajy:=(R.f b ⟨a,p,N,M⟩).2;exact ajV a p b d N M (OL.c b ajy CS)
 have aj8:bi t Q ⟨ajC,ajl⟩:=by
  refine⟨ajU,λa p o e Y=>(aju a p e).elim (λh=>?_) λh=>aL h λi m d=>?_,λa D p q b e ajo J M=>(aju a p e).elim (λh=>(aju D q ajo).elim (λajm=>R.k a D p q b h.2.2 ajm.2.2 J M) λajm=>aL ajm λl W P=>(ajX a l p q b h.1 h.2.1 h.2.2 P J M).elim) λh=>aL h λi m d=>(aju D q ajo).elim (λajm=>(ajX D i q p b ajm.1 ajm.2.1 ajm.2.2 d M J).elim) λajm=>aL ajm λl W P=>?_,λb CS=>gq CS λa p e J=>(aju a p e).elim (λh=>⟨(R.f b ⟨a,p,h.2.2,J⟩).1,iT (R.f b ⟨a,p,h.2.2,J⟩).2 OL.s⟩) λh=>aL h λi m d=>S.f b ⟨i,p,d,J⟩,S.a,S.d,S.gens,S.os⟩
  ·rw[ajT a h.1 h.2.1]at Y;exact⟨(R.e a p o h.2.2 Y).u ajW λb x M ajD=>OL.u b x ajD (ajV a p b h.2.1 h.2.2 M) id,(R.h a p o h.2.2 Y).2⟩
  ·have u:i<L C:=by rw[<-ajp];exact(cs.mp d).1
   refine aL (ajS i a _ m (eM u)) λs n r=>?_;rw[aY (Y.symm.trans n)];exact⟨(JJ ajF r).mpr (S.e i p _ d (eM u)),r.same.mpr (S.h i p _ d (eM u)).2⟩
  ·rw[S.k i l p q b d P J M]at m;exact aY (m.symm.trans W)
 have ajm:cA d3 g ⟨ajC,ajl⟩:=⟨ajW,λb o e aj9 H=>OL.u b o e (λCS=>aj9 (ajI b CS)) id,λb ajy CS=>(gq CS λa p e J=>(aju a p e).elim (λh=>⟨a,p,h.2.2,J⟩) λh=>aL h λi m d=>ajI b (OL.c b ajy ⟨i,p,d,J⟩)),OL.s⟩;exact⟨y,Q,ajl,(xK ajF ajQ).mpr ajD,aj8,ajm,aj4 y Q F ⟨ajq.symm,ajE,ajQ,ajt,ajT,ajS⟩⟩
set_option maxRecDepth 100000
section
variable(BX:∀a K,(gr eo.params).get? a=O K->t.b.heap.get? a=O K)
include BX
theorem ahV (e:t.P=al q)(c:∀a l,q a=O l->∃d n,t.b.heap.get? a=O {cls:=.type "list",data:=.seq d n}/\bp ⟨t.b,[]⟩ d.toList l/\L l<=de):b4 q (jS t):=
 ⟨λf h=>ahI BX e c f h,λh b=>ahS h b,λh b=>ahR h b,λh b=>ahT h b,λg c i j b=>ahU g c i j b⟩
theorem ahW {b:aH->Q ae}(c:t.b.heap.Ns xP b):b ("law":aH)=O (.ref 1376):=by
 have e:(mF (gr eo.params) xP).bind (λa=>match mG a with|true=>mf a ("law":aH)|false=>ab)=O (.ref 1376):=()
 cases q:mF (gr eo.params) xP with
 |none=>rw[q]at e;injection e
 |some a=>
  rw[q]at e;have e:(match mG a with|true=>mf a ("law":aH)|false=>ab)=O (.ref 1376):=e;cases k:mG a with
  |false=>rw[k]at e;injection e
  |true=>rw[k]at e;rw[c.eq_nsMap,<-(wf BX q k).eq_nsMap];exact e
end
theorem ahX {R:WRecords}{P:b5}:∀{c:n WData}{d:n ae},K6 R c .int=af->WellAll P cM d c->∃l:bk,L l=L c/\bp v d (l.map x.e):=by
 intro c;induction c with
 |nil=>intro d a w;cases w;exact⟨[],aa,.l⟩
 |cons h c g=>
  intro d f w;rw[K6,fu]at f;refine bu (hasW_int f.1) ?_;rintro i rfl;cases w with
  |cons a b=>cases a;obtain⟨l,e,r⟩:=g f.2 b;exact⟨i::l,cp Nat.succ e,.a (.e i _) r⟩
theorem ahY {c:n WData}(h:dJ.row.toRowW.claim.pre c=af):∃a,c=[.list a]/\K6 [] a .int=af/\L a<=63:=by
 refine bd (pre_splitW h) λf b=>?_;refine d0 (hasAllW_cons (e:=.list .int) (es:=[]) f) ?_;rintro d r rfl g i;refine aL (hasW_list g) ?_;rintro a rfl j;have:r=[]:=by cases r with|nil=>rfl|cons x y=>simp[WShape.hasAll]at i
 subst this;refine⟨a,aa,j,?_⟩;have b:WTm.holds [] (.and (.not (.lt (.lit (.int 63)) (.len (.arg 0)))) (.lit (.bool af))) {args:=[.list a]}=true:=b;by_cases q:L a<=63
 ·exact q
 ·simp[WTm.holds,WTm.value,less?,Num.less?,(show(63:m)<L a from by exact ec (.Lt (.y 63) (.d .a)) (.b (.le .a (.y 63))) q)]at b
theorem ahZ:WalkO oS rC (λc c=>fZ) yp dJ.row.toRowW oT [] λf k=>lD f k:=by
 intro w d f d d G n a o d d d d d d d d d g t d d d u d d y d;refine dU (ahY u) ?_;rintro d rfl A p;cases y with
 | @cons v d k d B C=>
   cases C;cases B with
   | @list b d _ D E=>
     refine aL (ahX (v:=⟨f,[]⟩) A E) λl s F=>?_;have H:a=1376:=by rw[show oT.name=("law":aH)from aa,(ahW (t:=⟨dJ.prog,w,f,al λc=>ab⟩) (eo:=w) n G.T.g)]at g;replace g:=aY g;injection g with g;subst g;rfl
     subst H;have S:=ahV (t:=⟨dJ.prog,w,f,al λi=>if i=b then O (l.map x.e)else ab⟩) (q:= λi=>if i=b then O (l.map x.e)else ab) n aa λa m e=>by
      by_cases q:a=b
      ·rw[cP q]at e;replace e:=aY e;subst e;subst q;exact⟨_,_,D,F,by rw[cj,s];exact aU p ⋯⟩
      ·rw[ce q]at e;injection e
     have R:bi ⟨dJ.prog,w,f,al λi=>if i=b then O (l.map x.e)else ab⟩ [] ⟨f,[]⟩:=.l (λc c e=>e) (br _) aa aa;refine wpAny_call (yb ((ahi (ak:=b) (w:= λv c=>v=.d af) S (cP aa) (by rw[s];exact p) λc=>aa) callerA ⟨f,[]⟩ [.ref b] ⟨aa,⋯,⋯⟩ R (.a (.h b) .l)) λr d z=>?_);rcases r with e|(_|_|_|v)<;>first|exact z.elim|skip
     obtain⟨i,d,d,I,j,d,q⟩:=z;subst q;cases I;exact⟨.inl ⟨_,_,_,aa,λc=>aa,.bool af,(),λc=>⟨.nil,λa h=>by cases h⟩⟩,.of_keep λb o e=>j.a b o e,j.os,.of_eq (j.gens.trans t)⟩
def ajk:dJ.Holds:=MV ahZ
end Mine.Internal
end
theorem PySem.Challenge.cw_sy0013_01_holds : PySem.Challenge.rw_sy0013_01.Holds :=
 Mine.Internal.ajk
