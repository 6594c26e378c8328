import PyProof.Rows.All
import OpenK.KWalk
import OpenK.KUnr
import Open.FastT9
import Open.Line
import PySem.Challenge.RW_xm0541_01
set_option Elab.async false
set_option autoImplicit true
set_option bootstrap.genMatcherCode false
set_option genSizeOf false
set_option genInjectivity false
set_option genCtorIdx false
set_option compiler.extract_closed false
set_option backward.match.sparseCases false
set_option linter.all false
set_option maxRecDepth 100000
noncomputable section
open Nat renaming lt_of_le_of_lt->ac,le_trans->am,beq->co,add_le_add_left->db,eq_of_beq_eq_true->ii,le_of_ble_eq_true->io,add_le_add_right->lf,le_add_right->pp,zero_add->ss,le_add_left->ut,le_refl->v6,add_assoc->wn,add_comm->wp,succ_pos->wv,add_right_comm->AT,max_le->Da,lt_trans->Ev,le_of_eq->EQ,mul_le_mul_left->FS,testBit_or->Gc,lt_succ_self->Ix,zero_le->Rs,add_sub_cancel_left->Sc,blt->SL,le_succ->Tm,add_le_add->TE,lt_of_succ_lt_succ->bg,lt_of_lt_of_le->bh,ble->bx,ne_of_lt->bF,ne_of_beq_eq_false->bG,le_of_succ_le_succ->bH,ble_eq_true_of_le->bR,succ_le_succ->b6,or_assoc->cg,le_of_lt_succ->cj,le_of_lt->ck,mul_succ->cC,lt_of_succ_lt->cM,le_of_succ_le->cN,not_lt_zero->dF,min_eq_left->dG,succ->dO,not_succ_le_zero->dP,min_le_right->eD,zero_or->eP,or_zero->fE,mod_lt->fF,add_lt_add_left->fY,lt_add_of_pos_right->gK,sub_self->gX,lt_succ_of_le->gY,beq_refl->gZ,not_lt->iF,pow_le_pow_right->iW,lt_or_ge->jw,le_of_add_le_add_left->jY,or_lt_two_pow->kD,lt_succ_of_lt->kF,succ_add_eq_add_succ->kN,succ_lt_succ->lC,sub_le->lL,or_comm->nS,mul_le_mul_right->nT,not_le->ql,lt_of_le_of_ne->qn,min_le_left->uP,pow_succ->Av,mul_comm->Aw,sub_le_iff_le_add->Cd,sub_eq_zero_of_le->Ce,not_succ_le_self->El,eq_of_testBit_eq->Em,add_sub_cancel'->F9,lt_of_lt_of_eq->Gy,le_succ_of_le->Ku,add_left_comm->Kv,zero_testBit->La,le_of_not_lt->Lb,testBit_and->Pb,strongRecOn->Pc,le_antisymm->Pd,and_le_left->Pe,mul_assoc->Uk,lt_irrefl->Ul,succ_mul->UN,succ_add->UO,ne_of_gt->UP,pow_pos->Ys,one_mul->Yt
open Option.some renaming inj->bn
open List renaming all_eq_true->bv,length_append->ch,length_map->im,mem_cons->rc,append_assoc->sK,mem_map->to,getElem?_eq_some_iff->ty,length_nil->tz,append_nil->u8,contains_iff_mem->wf,map_inj_left->ww,mem_singleton->wP,map_cons->xL,getElem?_eq_getElem->At,map_append->AC,range->Db,getElem?_append_right->Fk,length_cons->FB,nil_append->GM,getElem?_map->H1,range'->IN,getElem?_append_left->IR,any_eq_true->P3,mem_filter->Re,pairwise_cons->Tk,mem_append->TD,getElem?_set_self->T0,replicate->UF,nodup_cons->Wp,range_eq_range'->WP,getElem?_set_ne->aP,length_filter_le->aT,length_set->aU,mem_flatMap->aW,filter_cons->aX,length_range->ba,mem_append_right->br,reverse_cons->bt,map_map->bD,mem_range->bS,mem_of_getElem?->bZ,flatten_cons->cf,filter_eq_self->cn,mem_cons_of_mem->cD,foldl_cons->cO,length_take->cV,mem_iff_getElem?->dh,lookup_cons_self->di,getElem?_eq_none_iff->dy,flatMap_cons->dH,any_eq_false->dI,map_congr_left->ej,not_mem_nil->eA,length_drop->eB,isEmpty_iff->eC,mem_of_mem_take->fw,drop_eq_nil_iff->fy,mem_cons_self->gv,getElem?_drop->gw,mem_flatten->iA,lookup->iO,map_eq_nil_iff->jb,map_nil->jq,getElem?_concat_length->jr,head?->jB,findIdx?_cons->jC,map_take->kG,take_length->lx,head?_drop->lM,forIn_cons->lN,find?_cons->lO,getElem?_eq_none->mM,tail_drop->nu,mem_of_mem_drop->nw,mem_append_left->ny,dropLast_concat->nA,length_reverse->oJ,findSome?_cons->oK,map_drop->oN,drop_nil->oO,any_cons->oQ,lookup_append->qb,findIdx_cons->rq,map_reverse->rZ,getElem_mem->r5,take_left->vc,drop_drop->ve,getElem?_zip_eq_some->wo,drop_eq_getElem_cons->wq,take_nil->xV,filterMap_cons_some->xW,tail->yh,length_eq_zero_iff->yi,take_of_length_le->Ag,set_set->Ah,findIdx_eq_length->Ai,drop_eq_nil_of_le->Aj,take_append_drop->Ax,findSome?_append->Ay,findIdx?_toArray->Az,eq_nil_or_concat->AA,concat_eq_append->AB,reverse_reverse->Cf,getLast?_concat->Cg,mem_map_of_mem->En,getElem?_range->Eo,filter_sublist->Ep,filterMap_cons->Er,map_inj_right->Ga,nodup_append->GA,getElem?_set->GB,find?_isSome->GC,map_fst_zip->Kw,lookup_cons->Kx,idxOf?_cons->Ky,flatMap_nil->Kz,drop_append->KA,drop->KB,cons->KC,take_left'->Lc,drop_left'->Ld,filterMap->Pf,set_comm->QO,all_cons->QP,flatMap->Um,any_map->Un,all_map->Uo,filter->UQ
open PySem renaming wpAny_bind->dL,Expr->jp,wpAny_mono->o0,Comprehension->NE,codeAny_mono->bw,Fin->bQ,isTrue->bW,wpAny_holding->cG,Around->dA,clipAt_nat->eg,NameKind->eh,wpAny_standAt->ft,mem_of_lookup->fO,Operator->fX,World->gL,wpAny_specialOf->gO,codeAny_builtin->gP,PyData->gW,wpAny_pyNext_list_item->iD,wpAny_pyNext_list_end->i4,wpAny_rule->i9,wpAny_call_entry->ja,plainId_quiet->jn,wpAny_assign_Name->kK,wpAny_pyIter_list->lG,Program->lH,Scope->ng,strKind_is->nQ,Stmt->nR,codeAny_of_tree->oI,sizeLine_eq->qi,intKind_is->sI,wpAny_typeOf->uL,wpAny_newObj_type->uM,noFill_tuple_add->wg,wpAny_updateSeq->yg,callWith_type1->Au,seq_tuple_add->Ej,wpAny_callSpecial?_slot->F8,CmpOp->Gd,meets_dict_get_default->Gr,concat_meets->Gs,Thread->Gu,OsState->Gw,wpAny_pyIter_listiter->Kq,wpAny_of_eq->K4,wpAny_noted->K5,wpAny_letTemporaryGo->K6,wpAny_field->K7,FuncData->Lf,wpAny_setItem_pairs->O9,wpAny_evalPart_none->O',wpAny_Name->QK,call_function_tree->QL,clipAt->QN,wpAny_truthy_bool->T9,wpAny_sequenceKey->T',wpAny_Return_some->Ua,wpAny_Assign_Name->Ub,slot_list_setitem->Uc,slot_list_getitem->Ud,slicePick_size_le->Ue,eqIsQuiet_byValue->Ug,wpAny_isInstance->UG,wpAny_getItem_of->UH,wpAny_forIn_list->UI,wpAny_askSetting->UJ,stored_length_le->UK,slicePick_plain->Yc
open Prod renaming snd->py,fst->Pv,ext->Cc
open Option renaming none->sw,isSome_iff_exists->Pi,isNone_iff_eq_none->cq,map_eq_some_iff->eL,rec->hZ,map_some->iN,map->jo,isSome_map->qa,bind->rK,isSome->u9,or_none->Ks,casesOn->Kt
open Bool renaming and_eq_true_iff->sB,false_ne_true->xz,or_eq_true_iff->FM,false_or->Os,eq_false_iff->Uf,and_false->bp,decide_or->bU,or_eq_false_iff->b5,or_false->cB,not_true->cS,and_eq_true->fM,true_and->fZ,noConfusion->iB,rec->iP,or_true->jt,false_eq_true->jD,not_eq_true'->ry,eq_iff_iff->uI,and_true->xX,or_eq_true->Lg
open Int renaming natCast_nonneg->Do,ofNat_lt->aV,not_lt->eQ,toNat_natCast->fh,toNat_of_nonneg->js,ofNat_le->jx,lt_of_le_of_lt->jO,le_refl->nU,le_trans->rL,negSucc->uE,ofNat_fdiv->wt,ofNat_inj->yj,toNat->Ak,ofNat->Al,le_antisymm->Pg,ne_of_gt->US,le_of_lt->UT
open PySem.Heap renaming get?_push_size->On,get?_push_of_some->bf,get?_none_of_le->b0,dictOf_iff->ct,SameBut->cR,ExtBut->fA,lt_size->gQ,get?_update_self->ie,size_push->vf
open PySem.PyData renaming eqv->TW,canLayAll0->ca,keyHash->fc,canLay0->fe,strOk->i5,depthAll->Gv,eqvAll->K9,depth->Pa
open Array renaming getElem?_toList->UV,length_toList->i6,mk->qp,eraseIdxIfInBounds->wu,size_eq_zero_iff->yk,getElem?_eq_none->yl,mem_toList_iff->AF,forIn_toList->Es,toList_push->Ge
open PySem.Builtin.Tuple renaming tupleHashOf->bu,tupleItemsOf->oR,tupleExact->UU
open False renaming elim->bL
open PySem.Builtin renaming bitNot->bM,bitAnd->jX,bitOr->kM
open ForInStep renaming yield->bO
open PySem.Around renaming under_plainId->dz
open PySem.Obj renaming mapSeq->dX,putName->kC,putNameByArray->Gx
open PySem.Value.ref renaming inj->eK
open Nat.succ renaming inj->fg
open PySem.W renaming boot_heap->fu,SharedT->gq,boot_drawn->sL,boot_toks->wj
open PySem.NameKind renaming free->fK,cell->Gz
open PySem.Heap.SameBut renaming update->g4,trans->Yu
open Nat.le renaming dest->iz
open PySem.Str renaming ofString->jv
open PySem.W.BT renaming node->jE,nil->ly
open PySem.F renaming args_tuple_add_2->jN,entry_tuple_add->jW,slot_tuple_add->kL
open PyProof.Rows renaming slot_tuple_getitem->kJ,neg_int->Ym,isub_int->Yn,isTrue_not->Yo,ior_int->Yp,iadd_int->Yq,Assign_Tuple->Yr
open PySem.W.SharedT renaming rec->lK
open Int.ofNat renaming inj->mN
open PySem.W.Frag.In renaming keeps->nB
open Ne renaming symm->oM
open PySem.Builtin.Slice renaming slicePlaces->qc,sliceAdjust->qe,slicePartIndex->UW
open PySem.Value renaming isInt_shape->qj,isInt->rY,type->uN,ref->xU,none->Ek,str->Yd,int->Ye
open Prod.mk renaming inj->rp
open PySem.Builtin.Range renaming rangeSize->rt,small->uH,rangeFitsLong->UX
open PySem.Builtin.List renaming listSameRef->rx,listTooLong->Yw,listSubscript?->Yx,listFitsIndex->Yy,listExtendWith->Yz
open PySem.Heap.IsSliceOf renaming new->uF
open Function renaming comp->uG
open PySem.SeqAt renaming eqv_refl->uO
open PySem.Heap.DictOf renaming new->Am
open PySem.Builtin.ObjectAttr.Found renaming value->An
open Iff renaming rfl->AD
open PySem.DictEntry renaming refKey->AE
open List.cons renaming inj->Gb
open PySem.Calls renaming spliced_cons->Gq,callWith_function->Uh
open PySem.ReadsAll renaming nil->Kr
open PySem.Shared renaming TypeIs->K8
open PySem.TablesWhole.Alg renaming mk->QM
open PySem.Reads renaming tuple->Ui,list->UM
open PyProof.V.Flat renaming int_inv->Uj
open PySem.Code renaming builtin->Up
open List.Pairwise renaming sublist->UR
open PySem.W.Fast renaming tw9446332074065402090->Yg,tw4187177175401517315->Yh,tw2436336058641802641->Yi,tw17960256430627541270->Yj,tw12908688711261696721->Yk,te9446332074065402090->Yl
open Eq renaming refl->Yv
namespace Mine.Internal
section
variable{α β:Type} {C:Prop}
theorem bE{o}{f:α->Option β}{y}(h:o.bind f=some y)(k:∀x,o=some x->f x=some y->C):C:=match o,h with
 |some x,h=>k x rfl h
theorem mE{o}{f:α->β}{y}(h:o.map f=some y)(k:∀x,o=some x->f x=y->C):C:=match o,h with
 |some x,h=>k x rfl<|bn h
theorem ff(h:false=true):C:=nomatch h
theorem nE{y:α}(h:none=some y):C:=nomatch h
theorem aE(h:(a&&b)=true)(k:a=true->b=true->C):C:=have h:=sB.mp h;k h.1 h.2
theorem dT{i:Decidable p}(h:decide p=true):p:=of_decide_eq_true h
theorem iE{i:Decidable p}{a}{y:β}(h:(if p then a else none)=some y)(k:p->a=some y->C):C:=by
 by_cases q:p
 .rw[if_pos q]at h;exact k q h
 .rw[if_neg q]at h;exact nE h
theorem sE{D:α->Prop}{a b}(h:some a=some b)(k:D a):D b:=bn h▸k
theorem qE{D:α->Prop}{a b}(h:a=b)(k:D a):D b:=h▸k
theorem pE{D:α->β->Prop}{a c b d}(h:(a,b)=(c,d))(k:D a b):D c d:=by cases h;exact k
theorem Pz{D:α->β->Prop}{a c b d}(h:some (a,b)=some (c,d))(k:D a b):D c d:=by cases h;exact k
theorem oE{o}{p:α->Bool}(h:o.any p=true)(k:∀x,o=some x->p x=true->C):C:=match o,h with
 |some x,h=>k x rfl h
theorem bN(h:(!b)=true):b=false:=by induction b with
 |false=>rfl
 |true=>exact ff h
theorem sA{G:Prop}(h:∀C:Prop,(G->C)->C):G:=h G id
theorem sJ{a b:α}(h:some a=some b):a=b:=bn h
theorem pJ{a c:α}{b d:β}(h:(a,b)=(c,d)):a=c/\b=d:=rp h
theorem se{a c:α}{b d:β}(h:some (a,b)=some (c,d)):a=c/\b=d:=pJ<|sJ h
theorem lJ{a c}{b d:List α}(h:a::b=c::d):a=c/\b=d:=Gb h
theorem AH(h:b/\a)(k:b->a->C):C:=k h.1 h.2
theorem Ao(h:c/\b/\a)(k:c->b->a->C):C:=k h.1 h.2.1 h.2.2
theorem YB(h:d/\c/\b/\a)(k:d->c->b->a->C):C:=k h.1 h.2.1 h.2.2.1 h.2.2.2
theorem YA(h:e/\d/\c/\b/\a)(k:e->d->c->b->a->C):C:=k h.1 h.2.1 h.2.2.1 h.2.2.2.1 h.2.2.2.2
theorem fN{b:Type}{c:b->Prop}(h:∃a,c a)(k:∀a,c a->C):C:=h.elim λa d=>k a d
theorem aO{b:Type}{d c:b->Prop}(h:∃a,d a/\c a)(k:∀a,d a->c a->C):C:=h.elim λa e=>k a e.1 e.2
theorem eV{b:Type}{f e d:b->Prop}(h:∃a,f a/\e a/\d a)(k:∀a,f a->e a->d a->C):C:=h.elim λa c=>k a c.1 c.2.1 c.2.2
theorem Lh{c:Type}{g f e d:c->Prop}(h:∃a,g a/\f a/\e a/\d a)(k:∀a,g a->f a->e a->d a->C):C:=h.elim λa b=>k a b.1 b.2.1 b.2.2.1 b.2.2.2
theorem x14{c:Type}{i g f e d:c->Prop}(h:∃a,i a/\g a/\f a/\e a/\d a)(k:∀a,i a->g a->f a->e a->d a->C):C:=h.elim λa b=>k a b.1 b.2.1 b.2.2.1 b.2.2.2.1 b.2.2.2.2
theorem jF{d c:Type}{e:d->c->Prop}(h:∃b a,e b a)(k:∀b a,e b a->C):C:=h.elim λb g=>g.elim λa f=>k b a f
theorem nF{d c:Type}{f e:d->c->Prop}(h:∃b a,f b a/\e b a)(k:∀b a,f b a->e b a->C):C:=h.elim λb i=>i.elim λa g=>k b a g.1 g.2
theorem ju{d c:Type}{i g f:d->c->Prop}(h:∃b a,i b a/\g b a/\f b a)(k:∀b a,i b a->g b a->f b a->C):C:=h.elim λb j=>j.elim λa e=>k b a e.1 e.2.1 e.2.2
theorem AG{e d:Type}{j i g f:e->d->Prop}(h:∃b a,j b a/\i b a/\g b a/\f b a)(k:∀b a,j b a->i b a->g b a->f b a->C):C:=h.elim λb l=>l.elim λa c=>k b a c.1 c.2.1 c.2.2.1 c.2.2.2
theorem Zp{e d:Type}{l j i g f:e->d->Prop}(h:∃b a,l b a/\j b a/\i b a/\g b a/\f b a)(k:∀b a,l b a->j b a->i b a->g b a->f b a->C):C:=h.elim λb m=>m.elim λa c=>k b a c.1 c.2.1 c.2.2.1 c.2.2.2.1 c.2.2.2.2
theorem uQ{f e d:Type}{g:f->e->d->Prop}(h:∃c b a,g c b a)(k:∀c b a,g c b a->C):C:=h.elim λc l=>l.elim λb j=>j.elim λa i=>k c b a i
theorem xY{f e d:Type}{i g:f->e->d->Prop}(h:∃c b a,i c b a/\g c b a)(k:∀c b a,i c b a->g c b a->C):C:=h.elim λc m=>m.elim λb l=>l.elim λa j=>k c b a j.1 j.2
theorem Zo{f e d:Type}{l j i:f->e->d->Prop}(h:∃c b a,l c b a/\j c b a/\i c b a)(k:∀c b a,l c b a->j c b a->i c b a->C):C:=h.elim λc n=>n.elim λb m=>m.elim λa g=>k c b a g.1 g.2.1 g.2.2
theorem Et{g f e:Type}{m l j i:g->f->e->Prop}(h:∃c b a,m c b a/\l c b a/\j c b a/\i c b a)(k:∀c b a,m c b a->l c b a->j c b a->i c b a->C):C:=h.elim λc o=>o.elim λb n=>n.elim λa d=>k c b a d.1 d.2.1 d.2.2.1 d.2.2.2
theorem x41{i g f e:Type}{l j:i->g->f->e->Prop}(h:∃d c b a,l d c b a/\j d c b a)(k:∀d c b a,l d c b a->j d c b a->C):C:=h.elim λd p=>p.elim λc o=>o.elim λb n=>n.elim λa m=>k d c b a m.1 m.2
theorem Zn{i g f e:Type}{n m l:i->g->f->e->Prop}(h:∃d c b a,n d c b a/\m d c b a/\l d c b a)(k:∀d c b a,n d c b a->m d c b a->l d c b a->C):C:=h.elim λd q=>q.elim λc p=>p.elim λb o=>o.elim λa j=>k d c b a j.1 j.2.1 j.2.2
theorem P2{P:Nat->Prop}(b:P 0)(a:∀n,n<m->P (n+1))(h:n<m+1):P n:=by induction n with
 |zero=>exact b
 |succ n=>exact a n<|bg h
theorem KS{P:Nat->Prop}(d:P 0)(c:P 1)(b:P 2)(a:P 3)(h:n<4):P n:=P2 d (λ_ h=>P2 (P:=λn=>P<|n+1) c (λ_ h=>P2 (P:=λn=>P<|n+2) b (λ_ h=>P2 (P:=λn=>P<|n+3) a (λ_ h=>absurd h<|dF _) h) h) h) h
theorem lt8{P:Nat->Prop}(i:P 0)(g:P 1)(f:P 2)(e:P 3)(d:P 4)(c:P 5)(b:P 6)(a:P 7)(h:n<8):P n:=P2 i (λ_ h=>P2 (P:=λn=>P<|n+1) g (λ_ h=>P2 (P:=λn=>P<|n+2) f (λ_ h=>P2 (P:=λn=>P<|n+3) e (λ_ h=>KS (P:=λn=>P<|n+4) d c b a h) h) h) h) h
theorem bI{o f}{x:α}{r:Option β}(h:o=some x)(k:f x=r):o.bind f=r:=by subst h;exact k
theorem mI{o f}{x:α}{r:β}(h:o=some x)(k:f x=r):o.map f=some r:=by subst h;exact congrArg some k
theorem yY{c:Prop}(h:a/\b)(k:a->b->c):c:=k h.1 h.2
end
end Mine.Internal
section
open PySem (Str Operator CmpOp PyData clipAt)
namespace Mine.Internal
inductive bc{b a:Type}(P:b->a->Prop):List b->List a->Prop
 |nil:bc P [] []
 |cons {x:b} {y:a} {l:List b} {m:List a} (h:P x y) (t:bc P l m):bc P (x::l) (y::m)
theorem bc.ZP (h:bc P l []):l=[]:=by cases h;rfl
theorem bc.JH {l:List z} {m:List u} {C:Prop} (h:bc P l (y::m)) (k:∀x q,l=x::q->P x y->bc P q m->C):C:=by cases h with
 |cons a b=>exact k _ _ rfl a b
set_option genInjectivity true in
inductive PV where
 |none|bool (b:Bool)|int (i:Int)|str (s:Str)
 |tup (l:List PV)|lst (l:List PV)|cd (ks vs:List PV)|aZ (n:Nat)|iH (i:Int)
noncomputable def PV.ctorIdx (x:PV):Nat:=x.casesOn 0 (λ_=>1) (λ_=>2) (λ_=>3) (λ_=>4) (λ_=>5) (λ_ _=>6) (λ_=>7) λ_=>8
inductive RV where
 |v (x:PV)|ml (t:Option Nat) (l:List PV)|md (t:Option Nat) (ks vs:List PV)
noncomputable abbrev ae(i:Int):RV:=.v<|.int i
noncomputable abbrev ak(i:Nat):RV:=.v<|.aZ i
noncomputable abbrev dj(i:Bool):RV:=.v<|.bool i
noncomputable abbrev dQ(i:List PV):RV:=.v<|.tup i
inductive GO where
 |list (l:List PV)|dict (ks a:List PV)|inst (c:Nat)|iK (b:List Str) (a:List PV)
structure St where
 r:List (Option RV)
 g:List GO
inductive Tg where
 |v (i:Nat)|ns (a:List Nat)
set_option genCtorIdx true in
inductive Bi where
 |len|range|sorted|tuple|all|any|max
set_option genCtorIdx true in
inductive Bm where
 |append|extend|pop|reverse|index|get
inductive Ex where
 |c (x:PV)|v (i:Nat)
 |and (es:List Ex)|or (es:List Ex)|not (e:Ex)|neg (e:Ex)
 |bin (op:fX) (a b:Ex)|cmp (op:Gd) (a b:Ex)|ite (c a b:Ex)
 |call (f:Nat) (as:List Ex)|new (c:Nat) (as:List Ex)|nh (o:Ex) (n:Str) (as:List Ex)
 |bi (b:Bi) (a:Ex)|bm (b:Bm) (o:Ex) (as:List Ex)
 |dw (o:Ex) (n:Str)|sub (o i:Ex)|sl (o:Ex) (lo d:Option Ex)
 |tup (es:List Ex)|lst (es:List Ex)|vP (ks vs:List Ex)
 |comp (elt:Ex) (g:List (Tg×Ex×List Ex))|prom (e:Ex)|bad
inductive XZ where
 |v (i:Nat)|ns (a:List Nat)|sub (o i:Ex)|dw (o:Ex) (n:Str)
inductive Sm where
 |asg (t:XZ) (e:Ex)|aug (i:Nat) (op:fX) (e:Ex)
 |bB (t:Tg) (d:Ex) (b:List Sm)|g7 (c:Ex) (b:List Sm)|aN (c:Ex) (a b:List Sm)
 |ret (e:Ex)|ex (e:Ex)|bad
structure cx where
 name:Str
 np:Nat
 ns:Nat
 kI:List PV
 body:List Sm
structure QJ where
 name:Str
 init:Nat
 ms:List (Str×Nat)
inductive Fl where
 |dK|brk|cnt|ret (r:RV)
noncomputable def Fl.ctorIdx (x:Fl):Nat:=x.casesOn 0 1 2 λ_=>3
namespace RV
noncomputable def eJ(x:RV):PV:=x.casesOn (λx=>x) (λ_ l=>.lst l) λ_ k v=>.cd k v
noncomputable def tag(x:RV):Option Nat:=x.casesOn (λ_=>none) (λt _=>t) λt _ _=>t
noncomputable def gR(t:Option Nat)(x:RV):RV:=x.casesOn .v (λ_ l=>.ml t l) λ_ k v=>.md t k v
end RV
noncomputable def PV.NV (x:PV):Option Nat:=x.casesOn sw (λ_=>sw) (λ_=>sw) (λ_=>sw) (λ_=>sw) (λ_=>sw) (λ_ _=>sw) some λ_=>sw
noncomputable def PV.int? (x:PV):Option Int:=x.casesOn sw (λ_=>sw) some (λ_=>sw) (λ_=>sw) (λ_=>sw) (λ_ _=>sw) (λ_=>sw) λ_=>sw
noncomputable def PV.AV (x:PV):Option Str:=x.casesOn sw (λ_=>sw) (λ_=>sw) some (λ_=>sw) (λ_=>sw) (λ_ _=>sw) (λ_=>sw) λ_=>sw
noncomputable def PV.bool? (x:PV):Option Bool:=x.casesOn sw some (λ_=>sw) (λ_=>sw) (λ_=>sw) (λ_=>sw) (λ_ _=>sw) (λ_=>sw) λ_=>sw
noncomputable def PV.lD (x:PV):Option (List PV):=x.casesOn sw (λ_=>sw) (λ_=>sw) (λ_=>sw) some (λ_=>sw) (λ_ _=>sw) (λ_=>sw) λ_=>sw
noncomputable def PV.Wc (x:PV):Option (List PV):=x.casesOn sw (λ_=>sw) (λ_=>sw) (λ_=>sw) (λ_=>sw) some (λ_ _=>sw) (λ_=>sw) λ_=>sw
noncomputable def PV.cd? (x:PV):Option (List PV×List PV):=x.casesOn sw (λ_=>sw) (λ_=>sw) (λ_=>sw) (λ_=>sw) (λ_=>sw) (λk v=>some (k,v)) (λ_=>sw) λ_=>sw
noncomputable def PV.W9 (x:PV):Bool:=x.casesOn true (λ_=>false) (λ_=>false) (λ_=>false) (λ_=>false) (λ_=>false) (λ_ _=>false) (λ_=>false) λ_=>false
noncomputable def RV.val? (x:RV):Option PV:=x.casesOn some (λ_ _=>none) λ_ _ _=>none
noncomputable def RV.go? (x:RV):Option GO:=x.casesOn (λ_=>none) (λ_ l=>some<|.list l) λ_ k v=>some<|.dict k v
noncomputable def GO.cls? (x:GO):Option Nat:=x.casesOn (λ_=>none) (λ_ _=>none) some λ_ _=>none
noncomputable def GO.Qn (x:GO):Option (List Str×List PV):=x.casesOn (λ_=>none) (λ_ _=>none) (λ_=>none) λa b=>some (a,b)
noncomputable def GO.vy (x:GO):Option (List PV):=x.casesOn some (λ_ _=>none) (λ_=>none) λ_ _=>none
noncomputable def GO.Qt (x:GO):Option (List PV×List PV):=x.casesOn (λ_=>none) (λk v=>some (k,v)) (λ_=>none) λ_ _=>none
theorem GO.list_eq {x:GO} (h:x.vy=some l):x=.list l:=by induction x<;>first|exact nE h|exact bn h▸rfl
theorem GO.Oe {x:GO} (h:x.Qt=some l):x=.dict l.1 l.2:=by induction x<;>first|exact nE h|exact bn h▸rfl
theorem PV.Jf {x:PV} (h:x.NV=some n):x=.aZ n:=by cases x<;>first|exact nE h|exact bn h▸rfl
theorem PV.cU {x:PV} (h:x.int?=some n):x=.int n:=by cases x<;>first|exact nE h|exact bn h▸rfl
theorem PV.sY {x:PV} (h:x.AV=some n):x=.str n:=by cases x<;>first|exact nE h|exact bn h▸rfl
theorem PV.Ec {x:PV} (h:x.bool?=some n):x=.bool n:=by cases x<;>first|exact nE h|exact bn h▸rfl
theorem PV.lR {x:PV} (h:x.lD=some n):x=.tup n:=by cases x<;>first|exact nE h|exact bn h▸rfl
theorem PV.Sh {x:PV} (h:x.Wc=some n):x=.lst n:=by cases x<;>first|exact nE h|exact bn h▸rfl
theorem PV.QC {x:PV} (h:x.cd?=some n):x=.cd n.1 n.2:=by cases x<;>first|exact nE h|exact bn h▸rfl
theorem PV.BA {x:PV} (h:x.W9=true):x=.none:=by cases x<;>first|exact ff h|rfl
theorem RV.lP {x:RV} (h:x.val?=some n):x=.v n:=by induction x<;>first|exact nE h|exact bn h▸rfl
theorem GO.TG {x:GO} (h:x.cls?=some n):x=.inst n:=by induction x<;>first|exact nE h|exact bn h▸rfl
theorem GO.N0 {x:GO} (h:x.Qn=some n):x=.iK n.1 n.2:=by induction x<;>first|exact nE h|exact bn h▸rfl
noncomputable def RV.int? (x:RV):Option Int:=x.val?.bind PV.int?
def RV.Bz (x:RV):Bool:=x.val?.any PV.W9
theorem RV.cU {x:RV} (h:x.int?=some n):x=.v (.int n):=bE h λ_ u q=>PV.cU q▸RV.lP u
theorem RV.DD {x:RV} (h:x.Bz=true):x=.v .none:=oE h λ_ u q=>PV.BA q▸RV.lP u
mutual
noncomputable def PV.beq:PV->PV->Bool
 |.none,y=>y.W9
 |.bool a,y=>y.bool?.any λb=>a==b
 |.int a,y=>y.int?.any λb=>decide<|a=b
 |.str a,y=>y.AV.any λb=>a==b
 |.tup a,y=>y.lD.any λb=>PV.F2 a b
 |.cd k v,y=>y.cd?.any λb=>PV.F2 k b.1&&PV.F2 v b.2
 |.lst _,_=>false
 |.aZ _,_=>false
 |.iH _,_=>false
noncomputable def PV.F2:List PV->List PV->Bool
 |[],m=>m.isEmpty
 |a::l,m=>(m.head?.any λb=>PV.beq a b)&&PV.F2 l m.tail
end
mutual
theorem PV.beq_eq:∀{a b:PV},PV.beq a b=true->a=b
 |.none,_,h=>(PV.BA h).symm
 |.bool _,_,h=>oE h λ_ u q=>eq_of_beq q▸(PV.Ec u).symm
 |.int _,_,h=>oE h λ_ u q=>of_decide_eq_true q▸(PV.cU u).symm
 |.str _,_,h=>oE h λ_ u q=>eq_of_beq q▸(PV.sY u).symm
 |.tup _,_,h=>oE h λ_ u q=>PV.sF q▸(PV.lR u).symm
 |.cd _ _,_,h=>oE h λ_ u q=>aE q λC z=>PV.sF C▸PV.sF z▸(PV.QC u).symm
 |.lst _,_,h=>ff h
 |.aZ _,_,h=>ff h
 |.iH _,_,h=>ff h
theorem PV.sF:∀{a b:List PV},PV.F2 a b=true->a=b
 |[],_,h=>(eC.mp h).symm
 |_::_,[],h=>aE h λh _=>ff h
 |_::_,_::_,h=>aE h λu q=>congr (congrArg KC<|PV.beq_eq u)<|PV.sF q
end
noncomputable def aM(k:PV):List PV->Option Nat
 |[]=>none
 |x::l=>if PV.beq x k then some 0 else(aM k l).map (· +1)
def DG(x:PV):Bool:=x.int?.isSome
def I3(x:PV):Bool:=x.AV.isSome
def BB(x:PV):Bool:=DG x||x.AV.any i5
noncomputable def isKey:Nat->PV->Bool
 |0,x=>BB x
 |n+1,x=>BB x||x.lD.any λl=>l.all<|isKey n
theorem PV.F1:(∀x∈l,PV.beq x x=true)->PV.F2 l l=true:=by
 induction l with
 |nil=>exact@λ_=>rfl
 |cons _ _ q=>exact@λh=>sB.mpr ⟨h _<|.head _,q λx m=>h x<|.tail _ m⟩
theorem qU{C:Prop}(h:BB a=true)(b:∀i,a=.int i->C)(ks:∀s,a=.str s->i5 s=true->C):C:=(FM.mp h).elim (λh=>by
  induction e:a.int? with
  |none=>rw[DG,e]at h;exact ff h
  |some i=>exact b i (PV.cU e)) λh=>oE h λs d c=>ks s (PV.sY d) c
theorem tX{C:Prop}{n}:∀{a},isKey n a=true->(∀i,a=.int i->C)->(∀s,a=.str s->i5 s=true->C)->(∀m l,n=m+1->a=.tup l->l.all (isKey m)=true->C)->C:=by
 induction n with
 |zero=>exact@λ_ h b ks _=>qU h b ks
 |succ n e=>exact@λ_ h b ks kt=>(FM.mp h).elim (λh=>qU h b ks) λh=>oE h λl d c=>kt n l rfl (PV.lR d) c
theorem PV.pV:∀(n){a},isKey n a=true->PV.beq a a=true
 |n,a,h=>tX h (λi e=>e▸decide_eq_true rfl) (λs e _=>e▸beq_self_eq_true s) λm l z u h=>by subst z u;exact PV.F1 λx q=>PV.pV m<|bv.mp h x q
noncomputable def k5(f:PV->Option gW):List PV->Option (List gW)
 |[]=>some []
 |x::l=>(f x).bind λd=>(k5 f l).map (d::·)
noncomputable def dat(g:List GO):Nat->PV->Option gW
 |0,_=>none
 |n+1,x=>match x with
  |.none=>some .none
  |.bool b=>some<|.bool b
  |.int i=>some<|.int i
  |.str s=>if i5 s=true then some (.str s)else none
  |.tup l=>(k5 (dat g n) l).map .tuple
  |.lst l=>(k5 (dat g n) l).map .list
  |.aZ k=>(g[k]?.bind GO.vy).bind λl=>(k5 (dat g n) l).map .list
  |.cd _ _=>none
  |.iH _=>none
def BR(g:List GO)(x:RV):Option gW:=x.casesOn (dat g 9) (λ_ l=>(k5 (dat g 9) l).map .list) λ_ _ _=>none
noncomputable def az:Nat:=2^20
def Xz(g:List GO)(a b:RV):Option Bool:=(BR g a).bind λx=>(BR g b).map λy=>TW x y
def ZG(g:List GO)(x:PV):Option (List PV):=x.casesOn none (λ_=>none) (λ_=>none) (λ_=>none) some some (λ_ _=>none) (λn=>g[n]?.bind GO.vy) λ_=>none
def cA(g:List GO)(x:RV):Option (List PV):=x.casesOn (ZG g) (λ_ l=>some l) λ_ _ _=>none
def Oi(g:List GO)(x:PV):Option (List PV×List PV):=x.casesOn none (λ_=>none) (λ_=>none) (λ_=>none) (λ_=>none) (λ_=>none) (λk v=>some (k,v)) (λn=>g[n]?.bind GO.Qt) λ_=>none
def uj(g:List GO)(x:RV):Option (List PV×List PV):=x.casesOn (Oi g) (λ_ _=>none) λ_ k v=>some (k,v)
def isTup(x:RV):Bool:=(x.val?.bind PV.lD).isSome
def ji(x:RV):Bool:=(x.val?.bind PV.NV).isSome
def keyOk(a:RV)(k:PV)(ks:List PV):Bool:=if ji a=true then k.lD.isSome&&isKey 6 k else(DG k&&ks.all DG)||(I3 k&&ks.all I3)
noncomputable def PV.truth? (x:PV):Option Bool:=x.casesOn (some false) some (λi=>some<|decide<|i≠0) (λ_=>sw) (λ_=>sw) (λ_=>sw) (λ_ _=>sw) (λ_=>sw) λ_=>sw
def cF(g:List GO)(x:RV):Option Bool:=match x.val?.bind PV.truth? with
 |some b=>some b
 |none=>(cA g x).map λl=>!l.isEmpty
def inR(g:List GO)(x:PV)(c:RV):Option Bool:=match cA g c with
 |some l=>(k5 (dat g 9) l).bind λa=>(dat g 9 x).map λd=>a.any λy=>TW y d
 |none=>(uj g c).bind λd=>if keyOk c x d.1=true then some (aM x d.1).isSome else none
noncomputable def PV.aaa (x:PV):Option Bool:=x.casesOn (some true) (λ_=>sw) (λ_=>some false) (λ_=>some false) (λ_=>some false) (λ_=>some false) (λ_ _=>some false) (λ_=>sw) λ_=>sw
def isR(a b:RV):Option Bool:=if b.Bz=true then(match a with|.v x=>x.aaa|_=>some false)else none
def I7(f:Int->Int->Bool)(a b:RV):Option Bool:=a.int?.bind λi=>b.int?.map λj=>f i j
def aS(g:List GO)(op:Gd)(a b:RV):Option Bool:=match op with
 |.Eq=>Xz g a b
 |.NotEq=>(Xz g a b).map (!·)
 |.Is=>isR a b
 |.IsNot=>(isR a b).map (!·)
 |.In=>a.val?.bind λx=>inR g x b
 |.NotIn=>if(!ji b||(cA g b).isSome)=true then a.val?.bind λx=>(inR g x b).map (!·)else none
 |.Lt=>I7 (λi j=>decide<|i<j) a b
 |.LtE=>I7 (λi j=>decide<|i<=j) a b
 |.Gt=>I7 (λi j=>decide<|j<i) a b
 |.GtE=>I7 (λi j=>decide<|j<=i) a b
noncomputable def binI(op:fX)(i j:Int):Option Int:=match op with
 |.Add=>some<|i+j
 |.Sub=>some<|i - j
 |.Mod=>if 0<j then some (Int.fmod i j)else none
 |.FloorDiv=>if 0<j/\j<2^20 then some (Int.fdiv i j)else none
 |.LShift=>if 0<=i/\i<256/\0<=j/\j<=64 then some (i*2^j.toNat)else none
 |.RShift=>if 0<=j/\j<=64 then some (Int.fdiv i<|2^j.toNat)else none
 |.BitAnd=>some<|jX i j
 |.BitOr=>some<|kM i j
 |_=>none
def O5(g:List GO)(a b:RV):Option RV:=(cA g a).bind λl=>(cA g b).bind λm=>if l.length+m.length<=az/\isTup a=isTup b then some (if isTup a=true then .v (.tup<|l++m)else .ml none (l++m))else none
noncomputable def isAdd:fX->Bool
 |.Add=>true
 |_=>false
def hK(g:List GO)(op:fX)(a b:RV):Option RV:=match a.int? with
 |some i=>b.int?.bind λj=>(binI op i j).map λk=>.v<|.int k
 |none=>if isAdd op=true then O5 g a b else none
noncomputable def intsOf:List PV->Option (List Int)
 |[]=>some []
 |x::l=>x.int?.bind λi=>(intsOf l).map (i::·)
noncomputable def PV.JZ (x:PV):Option Bool:=x.casesOn sw some (λ_=>sw) (λ_=>sw) (λm=>some !m.isEmpty) (λ_=>sw) (λ_ _=>sw) (λ_=>sw) λ_=>sw
noncomputable def boolsOf:List PV->Option (List Bool)
 |[]=>some []
 |x::l=>x.JZ.bind λi=>(boolsOf l).map (i::·)
noncomputable def ins(x:Int):List Int->List Int
 |[]=>[x]
 |y::l=>if x<=y then x::y::l else y::ins x l
noncomputable def nI:List Int->List Int
 |[]=>[]
 |x::l=>ins x<|nI l
noncomputable def nj:Int->List Int->Int
 |m,[]=>m
 |m,x::l=>nj (if m<x then x else m) l
def ZT:List Int->Option RV
 |[]=>none
 |x::l=>some<|.v<|.int<|nj x l
def E9(g:List GO)(a:RV):Option (List PV):=if isTup a=false then cA g a else none
def mapR(g:List GO)(a:RV):Option (List PV×List PV):=if ji a=false then uj g a else none
def uK(g:List GO)(b:Bi)(a:RV):Option RV:=match b with
 |.len=>(match cA g a with|some l=>some l|none=>(mapR g a).map Pv).map λ(l:List PV)=>.v<|.int l.length
 |.range=>a.int?.bind λi=>if i<2^20 then some (.v<|.iH i)else none
 |.sorted=>(match cA g a with|some _=>E9 g a|none=>(mapR g a).map Pv).bind λl=>(intsOf l).bind λl=>if l.length<64 then some (.ml none<|(nI l).map .int)else none
 |.tuple=>(cA g a).map λl=>.v<|.tup l
 |.all=>((E9 g a).bind boolsOf).map λl=>.v<|.bool<|l.all id
 |.any=>((E9 g a).bind boolsOf).map λl=>.v<|.bool<|l.any id
 |.max=>((E9 g a).bind intsOf).bind ZT
noncomputable def idx(l:List PV):Int->Option Nat
 |.ofNat n=>(l[n]?).map λ_=>n
 |.negSucc n=>if n<l.length then some (l.length - 1 - n)else none
def gy(g:List GO)(o:RV)(k:PV):Option PV:=match cA g o with
 |some l=>k.int?.bind λi=>(idx l i).bind λn=>l[n]?
 |none=>(uj g o).bind λd=>if keyOk o k d.1=true then(aM k d.1).bind λn=>d.2[n]? else none
def endOf(n d:Nat):Option PV->Option Nat
 |none=>some d
 |some p=>p.int?.map<|clipAt n
def ya(g:List GO)(o:RV)(lo c:Option PV):Option RV:=(cA g o).bind λl=>(endOf l.length 0 lo).bind λa=>(endOf l.length l.length c).map λb=>if isTup o=true then .v (.tup<|(l.take b).drop a)else .ml none ((l.take b).drop a)
def upd(ks a:List PV)(k v:PV):List PV×List PV:=match aM k ks with
 |some n=>(ks,a.set n v)
 |none=>(ks++[k],a++[v])
inductive Op where
 |rv (r:RV)|pl (i:Nat)
noncomputable def St.get (s:St) (i:Nat):Option RV:=(s.r[i]?).join
noncomputable def St.put (s:St) (i:Nat) (x:Option RV):St:={s with r:=s.r.set i x}
def Op.aD (s:St):Op->Option RV
 |.rv r=>some r
 |.pl i=>s.get i
def qX(g:List GO)(x:RV):Option (Nat×Nat×List Str×List PV):=(x.val?.bind PV.NV).bind λk=>(g[k]?.bind GO.cls?).bind λc=>(g[k+1]?.bind GO.Qn).map λd=>(k,c,d.1,d.2)
theorem qW(h:qX g x=some z):x=.v (.aZ z.1)/\g[z.1]?=some (.inst z.2.1)/\g[z.1+1]?=some (.iK z.2.2.1 z.2.2.2):=bE h λk f h=>bE h λc e h=>mE h λd b q=>by subst q;exact⟨bE f λ_ f a=>PV.Jf a▸RV.lP f,bE e λ_ e a=>GO.TG a▸e,bE b λ_ b a=>GO.N0 a▸b⟩
noncomputable def oneOf{a:Type}:List a->Option a
 |[x]=>some x
 |_=>none
noncomputable def Pp{a:Type}:List a->Option (a×a)
 |[x,y]=>some (x,y)
 |_=>none
theorem fP(h:oneOf l=some x):l=[x]:=match l,h with
 |[_],h=>congrArg (λz=>[z])<|bn h
theorem yu(h:Pp l=some x):l=[x.1,x.2]:=match l,h with
 |[_,_],h=>bn h▸rfl
def Op.AW (s:St) (x:RV) (o:Op) (m:RV):Option St:=match m.val? with
 |some p=>p.NV.bind λn=>x.go?.map λo=>{s with g:=s.g.set n o}
 |none=>match o with
  |.pl i=>some<|s.put i<|some<|x.gR m.tag
  |.rv _=>none
def Op.store (s:St) (x:RV) (o:Op):Option St:=(o.aD s).bind<|Op.AW s x o
noncomputable def Ex.var?:Ex->Option Nat
 |.v i=>some i
 |_=>none
theorem Ex.var_eq {e:Ex} (h:e.var?=some i):e=.v i:=by
 cases e with
 |v=>exact bn h▸rfl
 |_=>exact nE h
noncomputable def RV.LG:RV->Bool
 |.v _=>false
 |_=>true
noncomputable def RV.VT:RV->Option (List PV)
 |.ml t l=>if t.isNone then some l else none
 |_=>none
noncomputable def RV.fresh?:RV->Option GO
 |.ml t l=>if t.isNone then some (.list l)else none
 |.md t ks q=>if t.isNone&&(ks.isEmpty&&q.isEmpty)then some (.dict [] [])else none
 |.v _=>none
structure iU where
 e:Ex->St->Option (RV×St)
 b:Ex->St->Option (Bool×St)
 iT:List Sm->St->Option (Fl×St)
 call:Nat->List RV->List GO->Option (RV×List (Option RV)×List GO)
section
variable(f:iU)
def gS(e:Ex)(s:St):Option (Op×St):=match e.var? with
 |some i=>(s.get i).map λ_=>(.pl i,s)
 |none=>(f.e e s).map λx=>(.rv x.1,x.2)
noncomputable def zK(a:Bool):List Ex->St->Option (RV×St)
 |[],_=>none
 |[e],s=>f.e e s
 |e::b,s=>(f.e e s).bind λx=>(cF x.2.g x.1).bind λt=>if t=a then some x else zK a b x.2
noncomputable def oA(a:Bool):List Ex->St->Option (Bool×St)
 |[],s=>some (!a,s)
 |e::c,s=>(f.b e s).bind λx=>if x.1=a then some (a,x.2)else oA a c x.2
noncomputable def ua:List Ex->St->Option (List PV×St)
 |[],s=>some ([],s)
 |e::a,s=>(f.e e s).bind λx=>(ua a x.2).map λy=>(x.1.eJ::y.1,y.2)
noncomputable def ue:List Ex->St->Option (List Op×St)
 |[],s=>some ([],s)
 |e::a,s=>match e.var? with
  |some i=>(s.get i).bind λ_=>(ue a s).map λz=>(.pl i::z.1,z.2)
  |none=>(f.e e s).bind λx=>(ue a x.2).map λz=>(.rv (.v x.1.eJ)::z.1,z.2)
noncomputable def sR:Nat->List Op->St->Option (List RV×List (Option<|Nat×Option Nat)×St)
 |_,[],s=>some ([],[],s)
 |k,.rv r::os,s=>(sR (k+1) os s).map λz=>(r::z.1,none::z.2.1,z.2.2)
 |k,.pl i::os,s=>(s.get i).bind λx=>if x.LG then(sR (k+1) os<|s.put i none).map λz=>(x.gR (some k)::z.1,some (i,x.tag)::z.2.1,z.2.2) else(sR (k+1) os s).map λz=>(x::z.1,none::z.2.1,z.2.2)
def St.back (s:St) (b:Option (Nat×Option Nat)) (x:Option RV):St:=match b with
 |some z=>s.put z.1<|x.map<|RV.gR z.2
 |none=>s
noncomputable def giveBack(c:List (Option<|Nat×Option Nat))(a:List (Option RV))(s:St):St:=match c with
 |[]=>s
 |b::c=>(match a with
  |[]=>s
  |x::a=>giveBack c a (s.back b x))
def ic(b:Nat)(a:List RV)(o:List Op×St):Option (RV×St):=(sR a.length o.1 o.2).bind λz=>(f.call b (a++z.1) z.2.2.g).map λy=>(y.1,giveBack z.2.1 (y.2.1.drop a.length) {z.2.2 with g:=y.2.2})
def xw(b:Nat)(a:List RV)(c:List Ex)(s:St):Option (RV×St):=(ue f c s).bind λo=>ic f b a o
noncomputable def uT:List Nat->List PV->St->Option St
 |[],[],s=>some s
 |i::b,x::a,s=>uT b a<|s.put i<|some<|.v x
 |_,_,_=>none
def bY(t:Tg)(x:PV)(s:St):Option St:=match t with
 |.v i=>some<|s.put i<|some<|.v x
 |.ns a=>match x with
  |.tup l=>uT a l s
  |_=>none
noncomputable def bb{b c:Type}(a:PV->b->Option (Option c×b)):List PV->b->Option (Option c×b)
 |[],s=>some (none,s)
 |x::d,s=>(a x s).bind λy=>match y.1 with
  |some r=>some (some r,y.2)
  |none=>bb a d y.2
noncomputable def je{b c:Type}(d:b->List GO)(n:Nat)(a:PV->b->Option (Option c×b)):Nat->Nat->b->Option (Option c×b)
 |0,_,_=>none
 |k+1,i,s=>((d s)[n]?).bind λo=>o.vy.bind λl=>match l[i]? with
  |none=>some (none,s)
  |some x=>(a x s).bind λy=>match y.1 with
   |some r=>some (some r,y.2)
   |none=>je d n a k (i+1) y.2
inductive Src where
 |l (r:List PV)|g (n k i:Nat)
def fB{b c:Type}(d:b->List GO)(a:PV->b->Option (Option c×b)):Src->b->Option (Option c×b)
 |.l r,s=>bb a r s
 |.g n k i,s=>je d n a k i s
def ZD(g:List GO)(x:PV):Option Src:=match x with
 |.tup l=>some<|.l l
 |.lst l=>some<|.l l
 |.aZ n=>(g[n]?).bind λo=>o.vy.map λl=>.g n (l.length+1) 0
 |.iH i=>if - 2^20<=i then some (.l<|(Db i.toNat).map λ(k:Nat)=>.int (k:Int))else none
 |_=>none
def srcOf(g:List GO)(x:RV):Option Src:=match x with
 |.v p=>ZD g p
 |.ml _ l=>some<|.l l
 |.md ..=>none
def eY{b k:Type}(j:List Nat)(d:b->St)(h:St->b->b)(m:Ex)(a:PV->b->Option (Option k×b))(s:b):Option (Option k×b):=match m.var? with
 |some i=>((d s).get i).bind λx=>match x with
  |.ml t l=>if j.contains i=false then(bb a l<|h ((d s).put i none) s).map λy=>(y.1,h ((d y.2).put i<|some<|.ml t l) y.2)else none
  |.md ..=>none
  |.v p=>(srcOf (d s).g<|.v p).bind λc=>fB (λs=>(d s).g) a c s
 |none=>(f.e m<|d s).bind λx=>(srcOf x.2.g x.1).bind λc=>fB (λs=>(d s).g) a c<|h x.2 s
def iQ:List Ex->St->Option (Bool×St):=oA f false
noncomputable def KZ(a:List Nat)(b:Ex):List (Tg×Ex×List Ex)->List PV×St->Option (Option Unit×(List PV×St))
 |[],s=>if s.1.length<az then(f.e b s.2).map λx=>(none,(s.1++[x.1.eJ],x.2))else none
 |(t,g,i)::h,s=>eY f a (λ(s:List PV×St)=>s.2) (λst s=>(s.1,st)) g (λx s=>(bY t x s.2).bind λd=>(iQ f i d).bind λc=>if c.1 then KZ a b h (s.1,c.2)else some (none,(s.1,c.2))) s
noncomputable def kH:Tg->List Nat
 |.v i=>[i]
 |.ns a=>a
noncomputable def clear:List Nat->St->St
 |[],s=>s
 |i::a,s=>clear a (s.put i none)
def mv(b:Ex)(a:List (Tg×Ex×List Ex))(s:St):Option (RV×St):=match a with
 |[]=>none
 |(t,e,i)::h=>(eY f (a.flatMap λg=>kH g.1) (λ(s:List PV×St)=>s.2) (λst s=>(s.1,clear (a.flatMap λg=>kH g.1) st)) e (λx s=>(bY t x s.2).bind λd=>(iQ f i d).bind λc=>if c.1 then KZ f (a.flatMap λg=>kH g.1) b h (s.1,c.2)else some (none,(s.1,c.2))) ([],clear (a.flatMap λg=>kH g.1) s)).map λy=>(.ml none y.2.1,clear (a.flatMap λg=>kH g.1) y.2.2)
def rF:Option Ex->St->Option (Option PV×St)
 |none,s=>some (none,s)
 |some e,s=>(f.e e s).map λx=>(some x.1.eJ,x.2)
def K2(s:St)(o:Op)(c:RV)(b:Bm)(d:List PV):Option (RV×St):=match b with
 |.append=>(oneOf d).bind λx=>(cA s.g c).bind λl=>if l.length<az then(o.store s<|.ml none<|l++[x]).map (λa=>(.v .none,a))else none
 |.extend=>(oneOf d).bind λx=>x.Wc.bind λm=>(cA s.g c).bind λl=>if l.length+m.length<=az then(o.store s<|.ml none<|l++m).map (λa=>(.v .none,a))else none
 |.reverse=>if d=[]then(cA s.g c).bind λl=>(o.store s<|.ml none l.reverse).map λa=>(.v .none,a)else none
 |.pop=>if d=[]then(cA s.g c).bind λl=>(l.getLast?).bind λx=>(o.store s<|.ml none l.dropLast).map λa=>(.v x,a) else(oneOf d).bind λx=>x.int?.bind λi=>(cA s.g c).bind λl=>(idx l i).bind λn=>(l[n]?).bind λx=>(o.store s<|.ml none<|l.eraseIdx n).map λa=>(.v x,a)
 |.index=>(oneOf d).bind λx=>x.int?.bind λi=>if isTup c=false then(cA s.g c).bind λl=>(intsOf l).bind λm=>(m.findIdx? (· ==i)).map λ(n:Nat)=>(.v<|.int (n:Int),s)else none
 |.get=>(Pp d).bind λx=>(uj s.g c).bind λq=>if keyOk c x.1 q.1=true then some (.v<|((aM x.1 q.1).bind λn=>q.2[n]?).getD x.2,s)else none
def uJ(s:St)(b:Bm)(o:Op)(a:List PV):Option (RV×St):=(o.aD s).bind λc=>K2 s o c b a
def xN(g:List GO)(b:Bm)(c:RV):Bool:=match b with
 |.get=>(uj g c).isSome
 |_=>(cA g c).isSome&& !isTup c
noncomputable def Ex.XJ:Ex->Option PV
 |.c x=>some x
 |_=>none
theorem Ex.TA {x:Ex} (h:x.XJ=some n):x=.c n:=by cases x<;>first|exact nE h|exact bn h▸rfl
noncomputable def keysOf:List Ex->Option (List PV)
 |[]=>some []
 |e::l=>(e.XJ.bind PV.AV).bind λx=>(keysOf l).map (.str x::·)
noncomputable def qK:List PV->Bool
 |[]=>true
 |k::ks=>(aM k ks).isNone&&qK ks
def rA(e:Ex)(s:St):Option (RV×St):=match e.var? with
 |some i=>(s.get i).bind λx=>(x.VT).map λl=>(.v<|.aZ s.g.length,{r:=s.r.set i<|some<|.v<|.aZ s.g.length,g:=s.g++[.list l]})
 |none=>(f.e e s).bind λx=>(x.1.fresh?).map λo=>(.v<|.aZ x.2.g.length,{x.2 with g:=x.2.g++[o]})
variable(FT:List cx) (CT:List QJ)
def nG:Ex->St->Option (RV×St)
 |.c x,s=>some (.v x,s)
 |.v i,s=>(s.get i).map λx=>(.v x.eJ,if x.LG then s.put i (some<|.v x.eJ)else s)
 |.and d,s=>zK f false d s
 |.or d,s=>zK f true d s
 |.not e,s=>(gS f e s).bind λp=>(p.1.aD p.2).bind λx=>(cF p.2.g x).map λt=>(.v<|.bool<|!t,p.2)
 |.neg e,s=>(f.e e s).bind λx=>x.1.int?.map λi=>(.v<|.int (-i),x.2)
 |.bin op a b,s=>(gS f a s).bind λp=>(gS f b p.2).bind λq=>(p.1.aD q.2).bind λx=>(q.1.aD q.2).bind λy=>(hK q.2.g op x y).map λz=>(z,q.2)
 |.cmp op a b,s=>(gS f a s).bind λp=>(gS f b p.2).bind λq=>(p.1.aD q.2).bind λx=>(q.1.aD q.2).bind λy=>(aS q.2.g op x y).map λz=>(.v<|.bool z,q.2)
 |.ite c a b,s=>(f.b c s).bind λt=>if t.1 then f.e a t.2 else f.e b t.2
 |.call l h,s=>xw f l [] h s
 |.new c h,s=>(ue f h s).bind λo=>(CT[c]?).bind λr=>(ic f r.init [.v<|.aZ o.2.g.length] (o.1,{o.2 with g:=o.2.g++[.inst c,.iK [] []]})).bind λy=>if y.1.Bz=true then some (.v<|.aZ o.2.g.length,y.2)else none
 |.nh o n h,s=>(f.e o s).bind λx=>(qX x.2.g x.1).bind λz=>if(z.2.2.1.idxOf? n).isNone=true then(CT[z.2.1]?).bind λr=>(r.ms.lookup n).bind λl=>xw f l [.v<|.aZ z.1] h x.2 else none
 |.bi b a,s=>(gS f a s).bind λp=>(p.1.aD p.2).bind λx=>(uK p.2.g b x).map λy=>(y,p.2)
 |.bm b o h,s=>(gS f o s).bind λp=>(p.1.aD p.2).bind λc=>if xN p.2.g b c=true then(ua f h p.2).bind λy=>uJ y.2 b p.1 y.1 else none
 |.dw o n,s=>(f.e o s).bind λx=>(qX x.2.g x.1).bind λz=>(z.2.2.1.idxOf? n).bind λj=>(z.2.2.2[j]?).map λy=>(.v y,x.2)
 |.sub o i,s=>(gS f o s).bind λp=>(f.e i p.2).bind λk=>(p.1.aD k.2).bind λx=>(gy k.2.g x k.1.eJ).map λy=>(.v y,k.2)
 |.sl o lo w,s=>(gS f o s).bind λp=>(rF f lo p.2).bind λa=>(rF f w a.2).bind λb=>(p.1.aD b.2).bind λx=>(ya b.2.g x a.1 b.1).map λy=>(y,b.2)
 |.tup d,s=>if d.length<=64 then(ua f d s).map λx=>(.v<|.tup x.1,x.2)else none
 |.lst d,s=>if d.length<=64 then(ua f d s).map λx=>(.ml none x.1,x.2)else none
 |.vP ks u,s=>(keysOf ks).bind λk=>(ua f u s).bind λv=>if(qK k&&(k.length==v.1.length&&decide (k.length<=15)))=true then some (.md none k v.1,v.2)else none
 |.comp m A,s=>mv f m A s
 |.prom e,s=>rA f e s
 |.bad,_=>none
def s7:Ex->St->Option (Bool×St)
 |.not e,s=>(f.b e s).map λx=>(!x.1,x.2)
 |.and d,s=>oA f false d s
 |.or d,s=>oA f true d s
 |.ite c a b,s=>(f.b c s).bind λt=>if t.1 then f.b a t.2 else f.b b t.2
 |.cmp op a b,s=>(gS f a s).bind λp=>(gS f b p.2).bind λq=>(p.1.aD q.2).bind λx=>(q.1.aD q.2).bind λy=>(aS q.2.g op x y).map λz=>(z,q.2)
 |.bad,_=>none
 |.prom _,_=>none
 |e,s=>(gS f e s).bind λp=>(p.1.aD p.2).bind λx=>(cF p.2.g x).map λt=>(t,p.2)
def forTurn(t:Tg)(b:List Sm)(x:PV)(s:St):Option (Option Fl×St):=(bY t x s).bind λa=>(f.iT b a).map λy=>match y.1 with
  |.dK=>(none,y.2)
  |.cnt=>(none,y.2)
  |.brk=>(some .dK,y.2)
  |.ret r=>(some<|.ret r,y.2)
def sW(g:List GO)(c:RV)(k x:PV):Option RV:=match cA g c with
 |some l=>k.int?.bind λj=>if 0<=j then(idx l j).map λn=>.ml none (l.set n x)else none
 |none=>(uj g c).bind λd=>if(decide (d.1.length<az)&&keyOk c k d.1)=true then some (.md none (upd d.1 d.2 k x).1 (upd d.1 d.2 k x).2)else none
noncomputable def TR(a:List Str)(b:List PV)(n:Str)(x:PV):Option GO:=match a.idxOf? n with
 |some j=>some<|.iK a<|b.set j x
 |none=>if a.length<100 then some (.iK (a++[n])<|b++[x])else none
def TT(t:XZ)(x:RV)(s:St):Option St:=match t with
 |.v i=>some<|s.put i<|some x
 |.ns a=>bY (.ns a) x.eJ s
 |.sub o i=>(gS f o s).bind λp=>(f.e i p.2).bind λk=>(p.1.aD k.2).bind λc=>(sW k.2.g c k.1.eJ x.eJ).bind λy=>p.1.store k.2 y
 |.dw o n=>(f.e o s).bind λy=>(qX y.2.g y.1).bind λz=>(TR z.2.2.1 z.2.2.2 n x.eJ).map λd=>{y.2 with g:=y.2.g.set (z.1+1) d}
def yR(e:Ex)(s:St):Option (Fl×St):=match e.var? with
 |some i=>(s.get i).map λx=>if x.LG then(if x.tag.isNone then(.ret x,s.put i none)else(.ret<|.v x.eJ,s.put i none))else(.ret x,s)
 |none=>(f.e e s).map λx=>(.ret x.1,x.2)
noncomputable def GG(c:Ex)(b:List Sm):Nat->St->Option (Fl×St)
 |0,_=>none
 |k+1,s=>(f.b c s).bind λt=>if t.1 then(f.iT b t.2).bind λy=>match y.1 with
  |.dK=>GG c b k y.2
  |.cnt=>GG c b k y.2
  |.brk=>some (.dK,y.2)
  |.ret r=>some (.ret r,y.2)
  else some (.dK,t.2)
def cH:Sm->St->Option (Fl×St)
 |.asg t e,s=>(f.e e s).bind λx=>(TT f t x.1 x.2).map λs=>(.dK,s)
 |.aug i op e,s=>(s.get i).bind λo=>(f.e e s).bind λx=>o.int?.bind λa=>x.1.int?.bind λb=>(binI op a b).map λc=>(.dK,x.2.put i<|some<|.v<|.int c)
 |.bB t d b,s=>(f.e d s).bind λx=>(srcOf x.2.g x.1).bind λsrc=>(fB (λs=>s.g) (forTurn f t b) src x.2).map λy=>(y.1.getD .dK,y.2)
 |.g7 c b,s=>GG f c b 100 s
 |.aN c a b,s=>(f.b c s).bind λt=>if t.1 then f.iT a t.2 else f.iT b t.2
 |.ret e,s=>yR f e s
 |.ex e,s=>(f.e e s).bind λx=>if(x.1.Bz||x.1.int?.isSome)=true then some (.dK,x.2)else none
 |.bad,_=>none
noncomputable def ia:List Sm->St->Option (Fl×St)
 |[],s=>some (.dK,s)
 |x::a,s=>(cH f x s).bind λy=>match y.1 with
  |.dK=>ia a y.2
  |fl=>some (fl,y.2)
noncomputable def ee(s:St)(k:Nat):List RV->List (Option RV)
 |[]=>[]
 |a::b=>(match a with
  |.v _=>none
  |_=>(s.get k).bind λm=>if m.tag=some k then some m else none)::ee s (k+1) b
def pQ(a:List RV)(s:St):Fl->Option (RV×List (Option RV)×List GO)
 |.ret r=>some (r,ee s 0 a,s.g)
 |.dK=>some (.v .none,ee s 0 a,s.g)
 |_=>none
def lT(c:Nat)(b:List RV)(g:List GO):Option (RV×List (Option RV)×List GO):=(FT[c]?).bind λa=>if b.length<=a.np/\a.np<=b.length+a.kI.length then
   (f.iT a.body ⟨b.map some++(a.kI.drop<|a.kI.length+b.length - a.np).map (λx=>some<|.v x)++UF (a.ns - a.np) none,g⟩).bind λy=>pQ b y.2 y.1
  else none
def step:iU:=⟨nG f CT,s7 f,ia f,lT f FT⟩
end
noncomputable def bot:iU:=⟨λ_ _=>none,λ_ _=>none,λ_ _=>none,λ_ _ _=>none⟩
noncomputable def ev(FT:List cx)(CT:List QJ):Nat->iU
 |0=>bot
 |n+1=>step (ev FT CT n) FT CT
end Mine.Internal
end
section
open PySem (Str Operator CmpOp PyData)
namespace Mine.Internal
noncomputable abbrev aH:Ex:=.c<|.int 0
noncomputable abbrev bJ:Ex:=.c<|.int 1
noncomputable abbrev gM:Ex:=.c<|.int 2
noncomputable abbrev gV:Ex:=.c<|.int 3
noncomputable abbrev jA:Ex:=.c<|.int 4
noncomputable abbrev sy:Ex:=.c<|.int 5
noncomputable abbrev vX:Ex:=.c<|.int 6
noncomputable abbrev xM:Ex:=.c<|.int 7
noncomputable abbrev oC:Ex:=.c<|.int 13
noncomputable abbrev yd:Ex:=.c<|.int 8
noncomputable abbrev rT:Ex:=.c<|.int 11
noncomputable abbrev uu:Ex:=.c<|.int 12
noncomputable abbrev mA:Ex:=.c<|.int 2048
noncomputable abbrev u5:Ex:=.c<|.int 32
noncomputable abbrev jl:Ex:=.c<|.int 4096
noncomputable abbrev zV:Ex:=.c<|.int 512
noncomputable abbrev XQ:Ex:=.c<|.int 9
noncomputable abbrev zW:Ex:=.c<|.int 10
noncomputable abbrev OE:Ex:=.c<|.int 18
noncomputable abbrev OF:Ex:=.c<|.int 16
noncomputable abbrev JV:Ex:=.c<|.int 19
noncomputable abbrev JT:Ex:=.c<|.int 24
noncomputable abbrev JU:Ex:=.c<|.int 192
noncomputable abbrev aq:Ex:=.v 0
noncomputable abbrev aB:Ex:=.v 1
noncomputable abbrev aF:Ex:=.v 2
noncomputable abbrev bC:Ex:=.v 3
noncomputable abbrev cW:Ex:=.v 4
noncomputable abbrev en:Ex:=.v 5
noncomputable abbrev iC:Ex:=.v 6
noncomputable abbrev qf:Ex:=.v 7
noncomputable abbrev AI:Ex:=.v 8
noncomputable abbrev GL:Ex:=.v 9
noncomputable abbrev uR:Ex:=.v 10
noncomputable abbrev GP:Ex:=.v 11
noncomputable abbrev AJ:Ex:=.v 12
noncomputable abbrev GN:Ex:=.v 13
noncomputable abbrev Lk:Ex:=.v 14
noncomputable abbrev QX:Ex:=.v 15
noncomputable abbrev Lj:Ex:=.v 16
noncomputable abbrev Eg:Ex->Sm:=.asg<|.v 1
noncomputable abbrev pX:Ex->Sm:=.asg<|.v 2
noncomputable abbrev ri:Ex->Sm:=.asg<|.v 3
noncomputable abbrev ux:Ex->Sm:=.asg<|.v 4
noncomputable abbrev xS:Ex->Sm:=.asg<|.v 5
noncomputable abbrev B6:Ex->Sm:=.asg<|.v 6
noncomputable abbrev UB:Ex->Sm:=.asg<|.v 7
noncomputable abbrev QE:Ex->Sm:=.asg<|.v 9
noncomputable abbrev z8:Ex->Sm:=.asg<|.v 10
noncomputable abbrev aj:Ex->Ex->Ex:=.cmp .Eq
noncomputable abbrev iZ:Ex->Ex->Ex:=.cmp .NotEq
noncomputable abbrev oB:Ex->Ex->Ex:=.cmp .Lt
noncomputable abbrev rS:Ex->Ex->Ex:=.cmp .Gt
noncomputable abbrev D7:Ex->Ex->Ex:=.cmp .GtE
noncomputable abbrev dR:Ex->Ex->Ex:=.cmp .In
noncomputable abbrev jL:Ex->Ex->Ex:=.cmp .NotIn
noncomputable abbrev dM:Ex->Ex:=.bi .len
noncomputable abbrev cY:Ex->Ex:=.bi .range
noncomputable abbrev ku:Ex->Ex:=.bi .sorted
noncomputable abbrev fW:Ex->Ex:=.bi .tuple
noncomputable abbrev aI:Ex->List Ex->Ex:=.bm .append
noncomputable abbrev eZ:Ex->Ex->Ex:=.bin .Add
noncomputable abbrev g9:Str:=⟨#[114,111,119,115]⟩
noncomputable abbrev jy:Str:=⟨#[116,97,98]⟩
noncomputable abbrev kQ:Str:=⟨#[112,117,116]⟩
noncomputable abbrev wI:Str:=⟨#[109]⟩
noncomputable abbrev yF:Str:=⟨#[40,41]⟩
noncomputable abbrev A0:Str:=⟨#[124]⟩
noncomputable abbrev EJ:Str:=⟨#[98,111,117,110,100,115]⟩
noncomputable abbrev EI:Str:=⟨#[105,110,100,101,120]⟩
noncomputable abbrev EH:Str:=⟨#[102,111,114,99,101]⟩
noncomputable abbrev EF:Str:=⟨#[104,97,110,100,101,100]⟩
noncomputable abbrev yI:Str:=⟨#[91,93]⟩
noncomputable abbrev yH:Str:=⟨#[84]⟩
noncomputable abbrev yG:Str:=⟨#[104,111,115,116]⟩
noncomputable abbrev CR:Str:=⟨#[100,101,102,97,117,108,116,115]⟩
noncomputable abbrev CQ:Str:=⟨#[101]⟩
noncomputable abbrev CP:Str:=⟨#[109,111,100,101,108,115]⟩
noncomputable abbrev Hn:Str:=⟨#[110,97,109,101,115]⟩
noncomputable abbrev Hm:Str:=⟨#[111,112,101,110]⟩
noncomputable abbrev Hl:Str:=⟨#[99,111,112,105,101,115]⟩
def f0:cx:=⟨⟨#[107,105,110,100,95,111,102]⟩,2,2,[],[.ret<|.sub (.sub (.dw aq g9) aB) aH]⟩
def f1:cx:=⟨⟨#[115,116,114,95,116,121,112,101]⟩,3,3,[.int 0],[.ret<|.nh aq kQ [.tup [gV,aB,aF]]]⟩
def f2:cx:=⟨⟨#[110,117,109,95,116,121,112,101]⟩,3,3,[.int 0],[.ret<|.nh aq kQ [.tup [jA,aB,aF]]]⟩
def f3:cx:=⟨⟨#[97,114,114,97,121,95,116,121,112,101]⟩,3,3,[.int 0],[.ret<|.nh aq kQ [.tup [rT,aB,aF]]]⟩
def f4:cx:=⟨⟨#[108,97,115,116,95,109,97,114,107]⟩,2,4,[],[pX<|.neg bJ,.bB (.v 3) (cY<|dM aq) [.aN (dR (.sub (.sub aq bC) bJ) aB) [pX bC] []],.ret aF]⟩
def f5:cx:=⟨⟨#[110,101,101,100,101,100,95,116,111,95,108,97,115,116]⟩,2,7,[],[pX<|.call 4 [aB,.tup [aH]],ri<|.lst [],.bB (.v 4) (cY<|dM aB) [.asg (.ns [5,6])<|.sub aB cW,.aN (.and [aj iC bJ,oB cW aF]) [.ex<|aI bC [.tup [.call 17 [aq,en],aH]]] [.ex<|aI bC [.tup [en,iC]]]],.ret bC]⟩
def f6:cx:=⟨⟨#[111,110,101,95,114,101,115,116]⟩,3,8,[],[ri<|.neg bJ,.bB (.v 4) (cY<|dM aB) [.aN (.and [oB bC aH,aj (.sub (.sub aB cW) bJ) gM]) [ri cW] []],.aN (.or [oB bC aH,.cmp .LtE aF bC]) [.ret aB] [],xS<|.lst [],.bB (.ns [6,7]) (.sl aB (some bC)<|some<|eZ aF bJ) [.ex<|aI en [.ite (aj qf bJ) (.call 17 [aq,iC]) iC]],.ret<|eZ (eZ (.sl aB none<|some bC)<|.lst [.tup [.call 16 [aq,en],gM]])<|.sl aB (some<|eZ aF bJ) none]⟩
def f7:cx:=⟨⟨#[116,117,112,108,101,95,116,121,112,101]⟩,3,7,[.int 0],[ri<|.comp (.tup [en,iC]) [(.ns [5,6],aB,[])],.aN (oB (.call 4 [bC,.tup [gV]]) aH) [ux<|.call 4 [bC,.tup [gM,bJ]],ri<|.call 6 [aq,.call 5 [aq,bC],cW],.aN (.and [aj (dM bC) bJ,aj (.sub (.sub bC aH) bJ) gM]) [.ret<|.call 3 [aq,.sub (.sub bC aH) aH,aF]] []] [],.ret<|.nh aq kQ [.tup [uu,fW bC,aF]]]⟩
def f8:cx:=⟨⟨#[115,105,103,95,116,121,112,101]⟩,6,6,[.tup [],.int 0],[.ret<|.nh aq kQ [.tup [oC,fW aB,fW aF,bC,cW,en]]]⟩
def f9:cx:=⟨⟨#[110,101,119,95,112,97,114,97,109]⟩,4,5,[.int (-1),.int (-1)],[ux<|dM<|.dw aq EJ,.ex<|aI (.dw aq EJ) [aF],.ex<|aI (.dw aq CR) [bC],.ex<|aI (.dw aq Hn) [aB],.ret<|.nh aq kQ [.tup [zW,cW]]]⟩
def Y7:cx:=⟨⟨#[112,97,114,116,115,95,111,102]⟩,2,3,[],[.aN (aj aB gM) [.ret<|.tup []] [],pX<|.sub (.dw aq g9) aB,.aN (aj (.sub aF aH) vX) [.ret<|.sub aF bJ] [],.ret<|.tup [aB]]⟩
def Y6:cx:=⟨⟨#[119,104,111,108,101,95,111,102,95,114,111,119]⟩,1,2,[],[Eg<|.sub aq aH,.aN (.or [aj aB gV,aj aB OE]) [.ret vX] [],.aN (aj aB jA) [.ret xM] [],.aN (aj aB sy) [.ret<|.ite .bad vX xM] [],.ret<|.neg bJ]⟩
def Tl:cx:=⟨⟨#[114,101,103,117,108,97,114,95,116,119,105,110]⟩,2,3,[],[pX<|.sub (.dw aq g9) aB,.aN (.and [dR (.sub aF aH)<|.c<|.tup [.int 2,.int 3,.int 4,.int 5,.int 8],aj (.sub aF<|.neg bJ) bJ]) [.ret<|.bm .get (.dw aq EI) [eZ (.sl aF none<|some<|.neg bJ)<|.tup [aH],.neg bJ]] [],.ret<|.neg bJ]⟩
def Y5:cx:=⟨⟨#[106,111,105,110,95,98,111,111,108,115]⟩,1,1,[],[.aN (.and [.or [dR yd aq,dR (.c<|.int 14) aq],.or [dR XQ aq,dR (.c<|.int 15) aq]]) [.asg (.sub aq yd) bJ,.asg (.sub aq XQ) bJ] []]⟩
def Xu:cx:=⟨⟨#[115,116,97,121,115,95,98,101,115,105,100,101]⟩,3,3,[],[.aN (dR (.call 12 [aq,aF]) aB) [.ret<|.c<|.bool false] [],.ret<|jL (.call 11 [.sub (.dw aq g9) aF]) aB]⟩
def Y4:cx:=⟨⟨#[116,111,112,95,111,102]⟩,1,2,[],[.bB (.v 1) (.tup [aH,oC,bJ]) [.aN (dR aB aq) [.ret aB] []],.ret<|.neg bJ]⟩
def Tj:cx:=⟨⟨#[117,110,105,111,110]⟩,2,8,[],[pX<|.vP [] [],.bB (.v 3) aB [.bB (.v 4) (.call 10 [aq,bC]) [.asg (.sub aF cW) bJ]],xS<|.call 15 [aF],.aN (D7 en aH) [.ret en] [],.ex<|.call 13 [aF],B6<|.comp qf [(.v 7,ku aF,[.call 14 [aq,aF,qf]])],.aN (.not iC) [.ret gM] [],.aN (aj (dM iC) bJ) [.ret<|.sub iC aH] [],.aN (rS (dM iC)<|.c<|.int 400) [.bad] [],.ret<|.nh aq kQ [.tup [vX,fW iC]]]⟩
def Xs:cx:=⟨⟨#[97,100,100,95,117,110,100,101,102]⟩,2,2,[],[.ret<|.call 16 [aq,.tup [aB,jA]]]⟩
def Xr:cx:=⟨⟨#[105,115,95,108,105,116,101,114,97,108]⟩,2,2,[],[.ret<|dR (.sub (.sub (.dw aq g9) aB) aH)<|.c<|.tup [.int 2,.int 3,.int 4,.int 5]]⟩
def Y3:cx:=⟨⟨#[105,115,95,117,110,105,116]⟩,2,2,[],[.ret<|.or [aj aB jA,aj aB sy,.call 18 [aq,aB]]]⟩
def Xq:cx:=⟨⟨#[102,97,109,105,108,121]⟩,2,5,[],[pX<|.sub (.dw aq g9) aB,ri<|.sub aF aH,.aN (aj bC bJ) [.ret<|.bm .get (.c<|.cd [.int 3,.int 4,.int 5,.int 6,.int 7,.int 10] [.int 6,.int 5,.int 4,.int 1,.int 2,.int 7]) [aB,aH]] [],.aN (aj bC gM) [.ret gV] [],.aN (dR bC<|.c<|.tup [.int 8,.int 9,.int 11,.int 12,.int 13]) [.ret xM] [],.aN (aj bC vX) [.ret .bad] [],.aN (aj bC xM) [.ret .bad] [],ux<|.call 11 [aF],.aN (oB cW aH) [.ret aH] [],.ret<|.ite (aj cW vX) bJ gM]⟩
def Ti:cx:=⟨⟨#[105,115,95,110,117,108,108,105,115,104,95,102,97,109,105,108,121]⟩,1,1,[],[.ret<|.or [aj aq jA,aj aq sy,aj aq vX]]⟩
def Y0:cx:=⟨⟨#[105,110,100,101,120,95,107,105,100,115]⟩,1,1,[],[.ret<|.ite (aj aq<|.tup []) (.lst [])<|.lst [.sub aq aH]]⟩
def f23:cx:=⟨⟨#[111,98,106,101,99,116,95,107,105,100,115]⟩,1,4,[],[Eg<|.comp (.sub bC bJ) [(.v 3,.sub aq bJ,[])],.bB (.v 2) (eZ (.sub aq gM)<|.sub aq gV) [.ex<|aI aB [aF]],.ret<|eZ (eZ aB<|.call 22 [.sub aq jA])<|.call 22 [.sub aq sy]]⟩
def f24:cx:=⟨⟨#[114,111,119,95,107,105,100,115]⟩,1,8,[],[Eg<|.sub aq aH,.aN (dR aB<|.c<|.cd [.int 11,.int 14,.int 15,.int 16,.int 17] [.tup [.int 1,.int 2],.tup [.int 1,.int 2],.tup [.int 1,.int 3],.tup [.int 1,.int 5],.tup [.int 2,.int 5]]) [.asg (.ns [2,3])<|.sub (.c<|.cd [.int 11,.int 14,.int 15,.int 16,.int 17] [.tup [.int 1,.int 2],.tup [.int 1,.int 2],.tup [.int 1,.int 3],.tup [.int 1,.int 5],.tup [.int 2,.int 5]]) aB,.ret<|.comp cW [(.v 4,.sl aq (some aF)<|some bC,[])]] [],.aN (.or [aj aB vX,aj aB xM]) [.ret<|.comp en [(.v 5,.sub aq bJ,[])]] [],.aN (aj aB yd) [.ret<|.call 23 [aq]] [],.aN (.or [aj aB XQ,aj aB JV,aj aB OE]) [.ret<|.comp iC [(.v 6,.sub aq gM,[])]] [],.aN (aj aB uu) [.ret<|.comp (.sub qf aH) [(.v 7,.sub aq bJ,[])]] [],.aN (aj aB oC) [.ret .bad] [],.ret<|.lst []]⟩
def f25:cx:=⟨⟨#[114,111,119,95,98,105,110,100,115]⟩,1,1,[],[.aN (aj (.sub aq aH) oC) [.ret<|.sub aq bJ] [],.aN (aj (.sub aq aH) OF) [.ret<|.sub aq sy] [],.aN (aj (.sub aq aH)<|.c<|.int 17) [.ret<|.tup [.sub aq bJ]] [],.ret<|.tup []]⟩
def f26:cx:=⟨⟨#[105,110,110,101,114,95,107,105,100,115]⟩,2,4,[],[pX<|.call 24 [aB],.bB (.v 3) (.call 25 [aB]) [.ex<|aI aF [.sub (.dw aq EJ) bC],.ex<|aI aF [.sub (.dw aq CR) bC]],.ret aF]⟩
def f27:cx:=⟨⟨#[114,101,97,99,104,101,100]⟩,2,5,[],[pX<|.vP [] [],ri<|.lst [aB],.g7 bC [ux<|.bm .pop bC [],.aN (.and [D7 cW aH,jL cW aF]) [.asg (.sub aF cW) bJ,.ex<|.bm .extend bC [.call 26 [aq,.sub (.dw aq g9) cW]]] []],.ret<|ku aF]⟩
def f28:cx:=⟨⟨#[102,114,101,101,95,112,97,114,97,109,115]⟩,2,9,[],[.aN (oB aB aH) [.ret<|.tup []] [],pX<|.call 27 [aq,aB],.aN (.not<|.bi .any<|.comp (.call 25 [.sub (.dw aq g9) qf]) [(.v 7,aF,[])]) [.ret<|fW<|ku<|.comp (.sub (.sub (.dw aq g9) AI) bJ) [(.v 8,aF,[aj (.sub (.sub (.dw aq g9) AI) aH) zW])]] [],ri<|.vP [] [],ux<|.neg bJ,.g7 .bad [xS aH,.bB (.v 6) aF [.aug 5 .Add<|dM<|.sub bC iC],.aN (aj en cW) [.bad] [],ux en],.ret<|fW<|ku<|.sub bC aB]⟩
def f29:cx:=⟨⟨#[104,97,115,95,112,97,114,97,109,115]⟩,2,2,[],[.ret<|rS (dM<|.call 28 [aq,aB]) aH]⟩
def f30(j:Nat):cx:=⟨⟨#[105,115,95,111,112,101,110]⟩,2,6,[],[pX<|.sub (.dw aq g9) aB,.aN (dR (.sub aF aH)<|.c<|.tup [.int 10,.int 14,.int 15,.int 16,.int 17,.int 19]) [.ret<|.c<|.bool true] [],.aN (.or [aj (.sub aF aH) vX,aj (.sub aF aH) xM]) [.bB (.v 3) (.sub aF bJ) [.aN (.call j [aq,bC]) [.ret<|.c<|.bool true] []]] [],.aN (aj (.sub aF aH) uu) [.bB (.v 4) (.sub aF bJ) [.aN (aj (.sub cW bJ) gV) [.ret<|.c<|.bool true] []]] [],.aN (aj (.sub aF aH) OE) [.bB (.v 5) (.sub aF gM) [.aN (.call j [aq,en]) [.ret<|.c<|.bool true] []]] [],.ret<|.c<|.bool false]⟩
def f31:cx:=⟨⟨#[107,105,110,100,115,112,108,105,99,101,95,115,112,114,101,97,100,95,107,105,110,100]⟩,2,3,[],[pX<|.nh aq EH [aB],.aN (.and [.call 29 [.dw aq jy,aB],jL (.sub (.sub (.dw (.dw aq jy) g9) aF) aH)<|.tup [rT,uu]]) [.ret aB] [],.ret aF]⟩
def N2:cx:=⟨⟨#[117,110,105,111,110,95,112,108,97,99,101,115]⟩,2,3,[],[.bB (.v 2) (cY<|dM aB) [.aN (.and [aj (.sub (.sub aB aF) bJ) gV,aj (.sub (.sub (.dw aq g9)<|.sub (.sub aB aF) aH) aH) vX]) [.ret aF] []],.ret<|.neg bJ]⟩
def f33:cx:=⟨⟨#[107,105,110,100,115,112,108,105,99,101,95,108,105,115,116,95,112,97,114,116]⟩,2,4,[],[pX<|.sub (.dw aq g9) aB,.aN (.and [aj (.sub aF aH) xM,.not<|.call 30 [aq,aB]]) [.bB (.v 3) (.sub aF bJ) [.aN (dR (.sub (.sub (.dw aq g9) bC) aH)<|.tup [rT,uu]) [.ret bC] []]] [],.ret aB]⟩
def f34:cx:=⟨⟨#[99,117,116,95,111,112,101,110]⟩,2,4,[],[pX<|.sub (.dw aq g9)<|.call 33 [aq,.sub aB aH],.aN (aj (.sub aF aH) rT) [.ret<|.lst [.tup [.sub aF bJ,gM]]] [],.aN (aj (.sub aF aH) uu) [.ret<|.comp bC [(.v 3,.sub aF bJ,[])]] [],.aN (aj (.sub aB aH) aH) [.ret<|.lst [.tup [aH,gM]]] [],.aN (.call 30 [aq,.sub aB aH]) [.ret<|.lst [aB]] [],.ret<|.lst [.tup [bJ,gM]]]⟩
def Jx(j:Nat):cx:=⟨⟨#[115,112,108,105,99,101,95,117,110,105,111,110]⟩,4,8,[],[ux<|.dw aq jy,xS<|.lst [],.bB (.v 6) (.sub (.sub (.dw cW g9)<|.sub (.sub aB aF) aH) bJ) [UB<|eZ (eZ (.sl aB none<|some aF)<|.lst [.tup [iC,gV]])<|.sl aB (some<|eZ aF bJ) none,.ex<|aI en [.call j [aq,qf,bC]]],.ret<|.call 16 [cW,en]]⟩
def uY(j:Nat):cx:=⟨⟨#[115,112,108,105,99,101]⟩,3,8,[],[ri<|.dw aq jy,ux<|.lst [],.bB (.v 5) aB [.aN (aj (.sub en bJ) gV) [xS<|.tup [.call 31 [aq,.sub en aH],gV],.aN (.or [aj (.sub en aH) gM,aj (.sub en aH) oC]) [.ret<|.sub en aH] []] [],.ex<|aI cW [en]],B6<|.call 32 [bC,cW],.aN (D7 iC aH) [.ret<|.call j [aq,cW,iC,aF]] [],UB<|.lst [],.bB (.v 5) cW [.aN (aj (.sub en bJ) gV) [.ex<|.bm .extend qf [.call 34 [bC,en]]] [.ex<|aI qf [en]],.aN (rS (dM qf)<|.c<|.int 10000) [.bad] []],.ret<|.call 7 [bC,fW qf,aF]]⟩
def YZ:cx:=⟨⟨#[104,97,115,95,108,105,116,101,114,97,108]⟩,2,4,[],[.bB (.v 2) (.sub (.sub (.dw aq g9) aB) gM) [ri<|.sub aF bJ,.aN (.and [iZ bC jA,.call 19 [aq,bC],iZ (.call 0 [aq,bC]) sy]) [.ret<|.c<|.bool true] []],.ret<|.c<|.bool false]⟩
def f38:cx:=⟨⟨#[108,105,116,101,114,97,108,95,102,105,114,115,116]⟩,2,5,[],[pX<|.comp bC [(.v 3,aB,[.call 37 [aq,bC]])],.ret<|eZ aF<|.comp cW [(.v 4,aB,[.not<|.call 37 [aq,cW]])]]⟩
def f39:cx:=⟨⟨#[109,101,101,116,95,110,117,108,108,105,115,104]⟩,4,4,[],[.aN (.and [aj aF sy,aj bC vX]) [.ret bJ] [],.aN (.and [aj aF vX,aj bC sy]) [.ret gM] [],.ret aH]⟩
def f40:cx:=⟨⟨#[109,101,101,116,95,118,97,108,117,101,115]⟩,5,5,[],[.aN (iZ bC cW) [.ret aH] [],.aN (.and [.call 19 [aq,aB],.call 19 [aq,aF]]) [.ret aH] [],.aN (.or [aj aB vX,aj aB xM]) [.ret gM] [],.aN (.or [aj aF vX,aj aF xM]) [.ret bJ] [],.ret gV]⟩
def f41:cx:=⟨⟨#[109,101,101,116,95,99,97,115,101]⟩,3,5,[],[.aN (.or [aj aB aF,aj (.call 12 [aq,aF]) aB]) [.ret bJ] [],.aN (aj (.call 12 [aq,aB]) aF) [.ret gM] [],ri<|.call 20 [aq,aB],ux<|.call 20 [aq,aF],.aN (.or [aj bC aH,aj cW aH]) [.ret gV] [],.aN (.or [.call 21 [bC],.call 21 [cW]]) [.ret<|.call 39 [aB,aF,bC,cW]] [],.aN (.or [aj bC xM,aj cW xM]) [.ret .bad] [],.ret<|.call 40 [aq,aB,aF,bC,cW]]⟩
def f42:cx:=⟨⟨#[108,97,121,95,111,110]⟩,3,7,[],[ri<|.lst [],ux<|.c<|.bool false,.bB (.v 5) aB [B6<|.call 41 [aq,en,aF],.aN (aj iC aH) [.ret<|.c .none] [],.aN (aj iC bJ) [ux<|.c<|.bool true] [],.aN (iZ iC gM) [.ex<|aI bC [en]] []],.aN (.not cW) [.ex<|aI bC [aF]] [],.ret bC]⟩
def f43:cx:=⟨⟨#[109,101,109,98,101,114,115,95,111,102,95,109,101,101,116]⟩,2,4,[],[pX<|.sub (.dw aq g9) aB,.aN (aj (.sub aF aH) XQ) [ri .bad,.aN (.and [.cmp .IsNot bC<|.c .none,aj (.dw bC ⟨#[107,105,110,100]⟩) gV,aj (.dw bC ⟨#[98,111,100,121]⟩) rT]) [.ret<|.tup [rT]] []] [],.aN (aj (.sub aF aH) xM) [.ret<|.sub aF bJ] [],.aN (aj (.sub aF aH) yd) [.ret<|.tup [.bad]] [],.ret<|.tup [aB]]⟩
def f44:cx:=⟨⟨#[109,101,101,116,95,112,97,114,116,115]⟩,3,7,[],[ri<|.comp en [(.v 5,.call 43 [aq,aB],[])],.bB (.v 4) (.call 43 [aq,aF]) [ri<|.call 42 [aq,bC,cW],.aN (.cmp .Is bC<|.c .none) [.ret gM] []],.aN (aj (dM bC) bJ) [.ret<|.sub bC aH] [],.ret<|.nh aq kQ [.tup [xM,fW<|.comp .bad [(.v 6,bC,[])]]]]⟩
def f45:cx:=⟨⟨#[109,101,101,116,95,116,119,111]⟩,3,10,[],[.aN (.or [aj aB aF,aj aF bJ]) [.ret aB] [],.aN (aj aB bJ) [.ret aF] [],ri<|.vP [] [],.asg (.ns [4,5])<|.tup [.call 10 [aq,aB],.call 10 [aq,aF]],B6<|.and [rS (dM cW) bJ,rS (dM en) bJ],.bB (.v 7) cW [.bB (.v 8) en [QE<|.call 44 [aq,qf,AI],.aN (iZ GL gM) [.asg (.sub bC GL) bJ] [],.aN (.and [iC,rS (dM bC)<|.c<|.int 200]) [.bad] []]],.ret<|.call 16 [aq,ku bC]]⟩
def Qq:cx:=⟨⟨#[105,110,116,101,114]⟩,2,5,[],[.bB (.v 2) (.tup [gM,aH,oC]) [.aN (dR aF aB) [.ret aF] []],ri bJ,.bB (.v 4) (cY<|dM aB) [.aN (jL (.sub aB cW)<|.sl aB none<|some cW) [ri<|.call 45 [aq,bC,.sub aB cW]] []],.ret bC]⟩
def f47(j:Nat):cx:=⟨⟨#[109,97,121,95,98,101,95,110,117,108,108,105,115,104]⟩,3,6,[.int 0],[.bB (.v 3) (.call 10 [aq,aB]) [ux<|.sub (.dw aq g9) bC,.aN (.or [aj bC bJ,aj bC aH,.call 21 [.call 20 [aq,bC]]]) [.ret<|.c<|.bool true] [],.aN (aj (.sub cW aH) zW) [xS<|.sub (.dw aq EJ)<|.sub cW bJ,.aN (.or [oB en aH,rS aF<|.c<|.int 20,.call j [aq,en,eZ aF bJ]]) [.ret<|.c<|.bool true] []] [.aN (.or [aj (.sub cW aH)<|.c<|.int 15,aj (.sub cW aH) OF,aj (.sub cW aH) JV]) [.ret<|.c<|.bool true] [.aN (.and [aj (.sub cW aH) xM,.bad]) [.ret<|.c<|.bool true] [.aN (.and [aj (.sub cW aH)<|.c<|.int 17,.bad]) [.ret<|.c<|.bool true] []]]]],.ret<|.c<|.bool false]⟩
def f48:cx:=⟨⟨#[112,108,97,105,110,95,118,97,108,117,101]⟩,2,3,[],[pX<|.sub (.dw aq g9) aB,.aN (aj aB jA) [.ret<|.tup [sy,aH]] [],.aN (aj aB sy) [.ret<|.tup [jA,aH]] [],.aN (aj (.sub aF aH) sy) [.ret<|.tup [.call 20 [aq,aB],.sub aF gV]] [],.aN (dR (.sub aF aH)<|.tup [gM,gV,jA]) [.ret<|.tup [.call 20 [aq,aB],.sub aF bJ]] [],.ret<|.tup []]⟩
def f49:cx:=⟨⟨#[112,108,97,105,110,95,109,101,101,116,115]⟩,4,8,[],[ux<|.call 20 [aq,aB],xS<|.call 20 [aq,aF],.aN (.or [aj cW aH,aj en aH]) [.ret<|.c<|.bool true] [],.aN (aj cW en) [B6<|.call 48 [aq,aB],UB<|.call 48 [aq,aF],.ret<|.or [aj iC<|.tup [],aj qf<|.tup [],aj iC qf]] [],.aN (.and [dR cW<|.c<|.tup [.int 4,.int 5,.int 6],dR en<|.c<|.tup [.int 4,.int 5,.int 6]]) [.ret<|.or [.not bC,jL jA<|.tup [cW,en]]] [],.ret<|.and [.not bC,dR cW<|.c<|.tup [.int 1,.int 2,.int 3],dR en<|.c<|.tup [.int 1,.int 2,.int 3]]]⟩
def f50:cx:=⟨⟨#[105,115,95,110,117,108,108,105,115,104,95,107,105,110,100]⟩,2,4,[],[pX<|.call 10 [aq,aB],.ret<|.and [rS (dM aF) aH,.bi .all<|.comp (dR (.call 20 [aq,bC])<|.c<|.tup [.int 4,.int 5,.int 6]) [(.v 3,aF,[])]]]⟩
def f51:cx:=⟨⟨#[115,104,97,114,112,101,110]⟩,3,6,[],[ri<|.call 20 [aq,aB],.aN (.or [dR aB<|.tup [vX,xM],aj (.call 0 [aq,aB]) OE]) [.aN (.bi .all<|.comp (.and [aj (.call 20 [aq,cW]) bC,iZ (.call 48 [aq,cW])<|.tup []]) [(.v 4,aF,[])]) [.ret<|.call 16 [aq,aF]] []] [],.aN (.and [aj bC aH,.bi .all<|.comp (dR (.call 20 [aq,en])<|.c<|.tup [.int 4,.int 5,.int 6]) [(.v 5,aF,[])]]) [.ret<|.call 46 [aq,.tup [aB,.call 16 [aq,aF]]]] [],.ret aB]⟩
def f52:cx:=⟨⟨#[110,117,108,108,105,115,104,95,115,105,100,101]⟩,4,7,[],[.aN (.not bC) [pX<|.call 16 [aq,.tup [jA,sy]]] [],.aN (aj aB bJ) [.ret aF] [],ux<|.lst [],.bB (.v 5) (.call 10 [aq,aB]) [.aN (dR (.call 20 [aq,en])<|.c<|.tup [.int 4,.int 5,.int 6]) [.aN (.bi .any<|.comp (.call 49 [aq,en,iC,bC]) [(.v 6,.call 10 [aq,aF],[])]) [.ex<|aI cW [en]] []] [.aN (dR en<|.tup [aH,oC]) [.ex<|aI cW [en]] [.aN (.call 47 [aq,en]) [.ex<|aI cW [.call 46 [aq,.tup [en,aF]]]] []]]],.ret<|.call 16 [aq,cW]]⟩
def f53:cx:=⟨⟨#[112,108,97,105,110,95,101,113,117,97,108,95,121,101,115]⟩,4,8,[],[.aN (aj aB bJ) [.ret .bad] [],.aN (.call 50 [aq,aF]) [.ret<|.call 52 [aq,aB,aF,bC]] [],ux<|.lst [],.bB (.v 5) (.call 10 [aq,aB]) [B6<|.comp qf [(.v 7,.call 10 [aq,aF],[.call 49 [aq,en,qf,bC]])],.aN iC [.ex<|aI cW [.call 51 [aq,en,iC]]] []],.ret<|.call 16 [aq,cW]]⟩
def f54:cx:=⟨⟨#[112,108,97,105,110,95,101,113,117,97,108,95,110,111]⟩,3,7,[],[ri<|.call 48 [aq,aF],.aN (aj bC<|.tup []) [.ret aB] [],.aN (.and [aj aB bJ,dR (.sub bC aH)<|.c<|.tup [.int 4,.int 5,.int 6]]) [.ret<|.call 16 [aq,.tup [rT,.ite (aj aF jA) sy jA]]] [],ux<|.lst [],.bB (.v 5) (.call 10 [aq,aB]) [B6<|.and [dR (.sub bC aH)<|.tup [jA,sy],aj (.call 20 [aq,en])<|.sub bC aH],.aN (.and [iZ (.call 48 [aq,en]) bC,.not iC,.not<|.and [aj en gV,aj aF jA]]) [.ex<|aI cW [en]] []],.ret<|.call 16 [aq,cW]]⟩
def f55:cx:=⟨⟨#[110,97,114,114,111,119,95,112,108,97,105,110,95,101,113,117,97,108]⟩,5,5,[],[.aN (.or [dR aB<|.tup [aH,oC],dR aF<|.tup [aH,oC,bJ]]) [.ret aB] [],.aN bC [.ret<|.call 53 [aq,aB,aF,cW]] [],.aN (.and [.not cW,.call 50 [aq,aF]]) [.ret .bad] [],.ret<|.call 54 [aq,aB,aF]]⟩
def f56:cx:=⟨⟨#[110,97,114,114,111,119,95,105,115,95,112,114,105,109,105,116,105,118,101]⟩,2,2,[],[.ret<|dR (.call 20 [aq,aB])<|.c<|.tup [.int 1,.int 2,.int 3,.int 4,.int 5,.int 6]]⟩
def f57:cx:=⟨⟨#[97,108,108,95,112,114,105,109,105,116,105,118,101]⟩,2,3,[],[.ret<|.bi .all<|.comp (.call 56 [aq,aF]) [(.v 2,.call 10 [aq,aB],[])]]⟩
def f58:cx:=⟨⟨#[117,110,108,105,107,101,95,110,117,108,108,105,115,104]⟩,3,7,[],[ri<|.dw aq jy,ux<|.call 55 [bC,aB,aF,.c<|.bool false,.c<|.bool true],xS<|.lst [],.bB (.v 6) (.call 10 [bC,cW]) [.aN (.and [dR (.call 0 [bC,iC])<|.c<|.tup [.int 10,.int 15,.int 16],.call 47 [bC,iC]]) [B6<|.call 46 [bC,.tup [iC,.bad]]] [],.ex<|aI en [iC]],.ret<|.call 16 [bC,en]]⟩
def f59:cx:=⟨⟨#[110,97,114,114,111,119,95,101,113,117,97,108]⟩,5,8,[],[xS<|.dw aq jy,Eg<|.nh aq EH [aB],pX<|.nh aq EH [aF],B6<|.and [.call 57 [en,aB],.call 57 [en,aF]],.aN (.and [.not bC,cW,dR aF<|.tup [jA,sy]]) [.ret<|.call 58 [aq,aB,aF]] [],.aN (.or [iC,.not bC,aj aB bJ,.call 50 [en,aF]]) [.ret<|.call 55 [en,aB,aF,bC,cW]] [],.aN (.or [dR aB<|.tup [aH,oC],dR aF<|.tup [aH,oC,bJ]]) [.ret aB] [],.ret<|.call 16 [en,.comp .bad [(.v 7,.call 10 [en,aB],[])]]]⟩
def YY:cx:=⟨⟨#[110,97,114,114,111,119,95,117,110,104,105,116]⟩,3,6,[],[ri<|.dw aq jy,Eg<|.nh aq EH [aB],ux<|.ite (dR gV<|.call 10 [bC,aB]) (.tup [gV])<|.tup [],.bB (.v 5) aF [Eg<|.call 59 [aq,aB,en,.c<|.bool false,.c<|.bool true]],.ret<|.ite cW (.call 16 [bC,eZ (.tup [aB]) cW]) aB]⟩
def f61:cx:=⟨⟨#[110,97,114,114,111,119,95,115,119,105,116,99,104]⟩,5,9,[],[xS<|.call 60 [aq,aB,aF],B6<|.ite cW aB en,UB<|.comp (.call 59 [aq,iC,AI,.c<|.bool true,.c<|.bool true]) [(.v 8,bC,[])],.aN cW [.ex<|aI qf [en]] [],.ret<|.call 16 [.dw aq jy,qf]]⟩
def f62:cx:=⟨⟨#[95,108,97,119,95,116,97,107,101]⟩,2,2,[],[.ret<|.ite aq (.bin .Mod (.bm .pop aq []) aB) aH]⟩
def f63:cx:=⟨⟨#[95,108,97,119,95,115,112,114,101,97,100]⟩,2,7,[],[pX<|.tup [.tup [.c<|.str A0,.tup [.tup [.c<|.str yF,.tup [.tup [bJ,aH]],aH],.tup [.c<|.str yI,jA,aH]],aH],.tup [.c<|.str yI,jA,aH],.tup [.c<|.str yF,.tup [.tup [bJ,aH],.tup [gM,bJ]],aH],.tup [.c<|.str yF,.tup [.tup [u5,gM],.tup [yd,aH]],bJ],.tup [.c<|.str yH,aH,aH],.tup [.c<|.str yF,.tup [.tup [.neg bJ,gV],.tup [bJ,aH]],aH],.tup [.c<|.str wI,mA,aH],.tup [.c<|.str wI,bJ,aH],.tup [.c<|.str ⟨#[38]⟩,JU,aH],.tup [.c<|.str wI,aH,aH],.tup [.c<|.str A0,.tup [.tup [.c<|.str yI,yd,bJ],.tup [.c<|.str yH,aH,aH],.tup [.c<|.str wI,bJ,aH]],aH],.tup [.c<|.str CQ,aH,aH],.tup [.c<|.str yF,.tup [],aH],.tup [.c<|.str wI,JU,aH],.tup [.c<|.str yI,gM,bJ],.tup [.c<|.str yF,.tup [.tup [jA,bJ]],aH]],ri<|.sub aF<|.call 62 [aq,OF],ux<|.comp en [(.ns [5,6],aB,[.and [aj iC gV,aj (.sub en aH)<|.c<|.str A0]])],.ret<|.ite (.and [aj (.sub bC aH)<|.c<|.str A0,rS (dM cW) bJ]) (.sub (.sub bC bJ) aH) bC]⟩
def YX:cx:=⟨⟨#[95,108,97,119,95,101,108,101,109,115]⟩,1,4,[],[Eg<|.lst [],.bB (.v 2) (cY<|.call 62 [aq,jA]) [ri<|.sub (.tup [gV,aH,bJ,gM,gV,gV])<|.call 62 [aq,vX],.aN (aj bC gV) [.ex<|aI aB [.tup [.call 63 [aq,aB],gV]]] [.ex<|aI aB [.tup [.sub (.c<|.tup [.int 1,.int 2,.int 4,.int 9,.int 36,.int 192,.int 256,.int 512,.int 768,.int 516,.int 195,.int 1024,.int 2048,.int 4096,.int 0,.int 24])<|.call 62 [aq,OF],bC]]]],.ret aB]⟩
def f65:cx:=⟨⟨#[95,108,97,119,95,102,108,97,116]⟩,1,1,[],[.aN (.bin .BitAnd aq mA) [.ret mA] [],.aN (.bin .BitAnd aq jl) [.ret jl] [],.aN (.bin .BitAnd aq jA) [.aug 0 .Sub<|.bin .BitAnd aq gV] [],.aN (.bin .BitAnd aq u5) [.aug 0 .Sub<|.bin .BitAnd aq JT] [],.ret aq]⟩
def f66:cx:=⟨⟨#[95,108,97,119,95,106,111,105,110]⟩,2,4,[],[pX<|.lst [],.bB (.v 3) (ku aB) [.aN (jL bC aF) [.ex<|aI aF [bC]] []],.aN (oB (dM aF) gM) [.ret<|.ite aF (.sub aF aH) gM] [],.ret<|.nh (.sub aq<|.c<|.str jy) kQ [.tup [vX,fW aF]]]⟩
def f67:cx:=⟨⟨#[95,108,97,119,95,107,105,110,100]⟩,2,3,[],[.aN (oB aB aH) [.ret<|.ite (aj aB<|.neg bJ) (.sub aq<|.c<|.str Hm)<|.sub aq<|.c<|.str ⟨#[109,101,109,98,101,114]⟩] [],.ret<|.call 66 [aq,.comp (.sub (.sub aq<|.c<|.str ⟨#[97,116,111,109,115]⟩) aF) [(.v 2,cY oC,[.bin .BitAnd (.bin .RShift aB aF) bJ])]]]⟩
def Gn(j:Nat):cx:=⟨⟨#[95,108,97,119,95,110,117,109,98,101,114]⟩,2,10,[],[.asg (.ns [2,3,4]) aB,.aN (aj aF<|.c<|.str wI) [.ret<|.call 67 [aq,bC]] [],.aN (aj aF<|.c<|.str CQ) [.ret oC] [],.aN (aj aF<|.c<|.str yH) [.ret<|.sub aq<|.c<|.str Hm] [],.aN (aj aF<|.c<|.str A0) [.ret<|.call 66 [aq,.comp (.call j [aq,qf]) [(.v 7,bC,[])]]] [],.aN (aj aF<|.c<|.str yF) [xS<|.comp (.tup [.call 67 [aq,AI],GL]) [(.ns [8,9],bC,[])],.ret<|.nh (.sub aq<|.c<|.str jy) kQ [.tup [uu,fW en,cW]]] [],B6<|.nh (.sub aq<|.c<|.str jy) kQ [.tup [rT,.call 67 [aq,bC],cW]],.ret<|.ite (aj aF<|.c<|.str yI) iC<|.nh (.sub aq<|.c<|.str jy) kQ [.tup [xM,.tup [iC,.sub aq<|.c<|.str ⟨#[116,104,105,110,103]⟩]]]]⟩
def f69(j:Nat):cx:=⟨⟨#[95,108,97,119,95,119,97,121,115]⟩,1,6,[],[.asg (.ns [1,2,3]) aq,.aN (aj aB<|.c<|.str A0) [.ret<|.comp (.sub (.call j [cW]) aH) [(.v 4,aF,[])]] [],.aN (aj aB<|.c<|.str yF) [.ret<|.lst [.comp en [(.v 5,aF,[])]]] [],.aN (aj aB<|.c<|.str yH) [.ret<|.lst [.lst [.tup [.neg bJ,gV]]]] [],.aN (aj aB<|.c<|.str wI) [.ret<|.lst [.lst [.tup [.ite (aj aF mA) mA jl,gM]]]] [],.ret<|.lst [.lst [.tup [aF,gM]]]]⟩
def YW:cx:=⟨⟨#[95,108,97,119,95,108,97,105,100]⟩,1,15,[],[Eg<|.comp AJ [(.ns [11,12],aq,[])],pX<|.ite (dR gM aB) (.bm .index aB [gM])<|dM aB,ri<|.bi .max<|eZ (.lst [.neg bJ])<|.comp GN [(.v 13,cY<|dM aB,[aj (.sub aB GN) aH])],ux<|.lst [],.bB (.v 5) (cY aF) [.asg (.ns [6,7])<|.sub aq en,.asg (.v 8)<|.and [aj qf bJ,oB en bC],.ex<|aI cW [.ite AI (.tup [.call 65 [.bin .BitOr iC zV],aH])<|.tup [iC,qf]]],.aN (jL gM aB) [.ret cW] [],QE<|.bi .max<|.comp Lk [(.v 14,cY<|dM aB,[iZ (.sub aB Lk) aH])],z8 aH,.bB (.ns [6,7]) (.sl aq (some aF)<|some<|eZ GL bJ) [.aug 10 .BitOr<|.bin .BitOr iC<|.ite (aj qf bJ) zV aH],.ret<|eZ (eZ cW<|.lst [.tup [.call 65 [uR],gM]])<|.sl aq (some<|eZ GL bJ) none]⟩
def f71:cx:=⟨⟨#[95,108,97,119,95,108,105,115,116]⟩,3,7,[],[.aN (jL gV<|.comp cW [(.ns [3,4],aB,[])]) [Eg<|.call 70 [aB],.aN (.and [aj (dM aB) bJ,aj (.sub (.sub aB aH) bJ) gM]) [.ret<|.nh (.sub aq<|.c<|.str jy) kQ [.tup [rT,.call 67 [aq,.sub (.sub aB aH) aH],aF]]] []] [],.ret<|.nh (.sub aq<|.c<|.str jy) kQ [.tup [uu,fW<|.comp (.tup [.call 67 [aq,en],iC]) [(.ns [5,6],aB,[])],aF]]]⟩
def Qp:cx:=⟨⟨#[95,108,97,119,95,115,112,108,105,99,101,100]⟩,3,10,[],[.bB (.ns [3,4]) aB [.aN (.and [aj cW gV,dR bC<|.tup [.tup [.c<|.str wI,aH,aH],.tup [.c<|.str CQ,aH,aH]]]) [.ret<|.ite (aj (.sub bC aH)<|.c<|.str CQ) oC gM] []],xS<|.lst [.lst []],.bB (.ns [3,4]) aB [B6<|.ite (aj cW gV) (.call 69 [bC])<|.lst [.lst [.tup [bC,cW]]],xS<|.comp (eZ qf AI) [(.v 7,en,[]),(.v 8,iC,[])]],.ret<|.call 66 [aq,.comp (.call 71 [aq,GL,aF]) [(.v 9,en,[])]]]⟩
def f73:cx:=⟨⟨#[95,108,97,119,95,109,101,116]⟩,1,5,[],[.aN (.or [dR aH aq,dR mA aq]) [.ret<|.ite (dR aH aq) aH mA] [],Eg jl,.bB (.v 2) aq [.aN (.or [aj aB jl,aj aF jl]) [Eg<|.ite (aj aB jl) aF aB] [ri<|.bin .BitOr (.bin .BitOr aF<|.ite (.bin .BitAnd aF jA) gV aH)<|.ite (.bin .BitAnd aF u5) JT aH,ux<|.bin .BitAnd (.bin .BitOr (.bin .BitOr aB<|.ite (.bin .BitAnd aB jA) gV aH)<|.ite (.bin .BitAnd aB u5) JT aH) bC,.aN (.or [.and [.bin .BitAnd aB zV,.bin .BitAnd aF<|.c<|.int 1024],.and [.bin .BitAnd aB<|.c<|.int 1024,.bin .BitAnd aF zV]]) [.aug 4 .BitOr zV] [],Eg<|.call 65 [cW]]],.ret aB]⟩
def f74:cx:=⟨⟨#[95,108,97,119,95,109,105,115,115,101,100]⟩,2,3,[],[.bB (.v 2) aB [.aN (dR aF<|.c<|.tup [.int 1,.int 2,.int 8,.int 16,.int 64,.int 128,.int 256,.int 512]) [.aug 0 .Sub<|.bin .BitAnd aq aF] []],.ret aq]⟩
def f75:cx:=⟨⟨#[95,108,97,119,95,104,105,116]⟩,2,4,[],[pX<|.bin .LShift bJ aq,.aN (.or [aj aq gM,aj aq sy]) [ri<|.bin .BitAnd aB<|.bin .LShift xM<|.bin .Sub aq gM,.ret<|.ite (.bin .BitAnd bC aF) aF bC] [],.aN (oB aq sy) [.ret<|.ite (.bin .BitAnd aB<|.bin .BitOr aF<|.ite (oB aq gM) jA u5) aF aH] [],.aN (rS aq yd) [.ret<|.ite (.bin .BitAnd aB<|.c<|.int 1536) aF aH] [],.ret<|.bin .BitAnd aF aB]⟩
def f76:cx:=⟨⟨#[95,108,97,119,95,101,113,117,97,108]⟩,2,4,[],[.aN (.or [aj aq mA,.bin .BitAnd aB<|.c<|.int 6144]) [.ret aq] [],pX aH,.bB (.v 3) (cY rT) [.aN (.bin .BitAnd (.bin .RShift aq bC) bJ) [.aug 2 .BitOr<|.call 75 [bC,aB]] []],.ret aF]⟩
def f77:cx:=⟨⟨#[95,108,97,119,95,115,119,105,116,99,104,101,100]⟩,4,7,[],[ux<|.call 74 [aq,aB],xS<|.ite bC cW aH,.bB (.v 6) aF [.aug 5 .BitOr<|.call 76 [.ite bC aq cW,iC]],.ret<|.call 65 [en]]⟩
def f78:cx:=⟨⟨#[95,108,97,119,95,116,117,114,110,101,100]⟩,2,3,[],[.aN (aj aB gM) [.ex<|.bm .reverse aq []] [.aN aq [pX<|.bm .pop aq [.ite (aj aB aH) aH<|.neg bJ],.aN (aj aB aH) [.ex<|aI aq [aF]] []] []]]⟩
def f79:cx:=⟨⟨#[95,108,97,119,95,107,105,110,100,115,95,100,101,101,100]⟩,3,12,[],[.asg (.ns [3,4])<|.tup [.bin .Mod aF gM,.bin .Mod (.bin .FloorDiv aF gM) gM],.asg (.ns [5,6])<|.tup [.sub (.sub aq<|.c<|.str EF) bC,.sub (.sub aq<|.c<|.str CP) bC],.asg (.ns [7,8])<|.sub aq<|.c<|.str ⟨#[115,117,98,106,101,99,116]⟩,.aN (aj aB aH) [QE<|.call 16 [.sub aq<|.c<|.str jy,en],z8 aH,.bB (.v 11) iC [.aug 10 .BitOr GP],z8<|.call 65 [uR]] [.aN (aj aB bJ) [QE<|.call 46 [.sub aq<|.c<|.str jy,en],z8<|.call 73 [iC]] [.aN (aj aB gM) [QE<|.call 60 [.sub aq<|.c<|.str yG,qf,en],z8<|.call 74 [AI,iC]] [QE<|.call 61 [.sub aq<|.c<|.str yG,qf,en,.sub (.sub aq<|.c<|.str EF) cW,.and [rS aF gV,oB aF yd]],z8<|.call 77 [AI,iC,.sub (.sub aq<|.c<|.str CP) cW,.and [rS aF gV,oB aF yd]]]]],.ret<|aj GL<|.call 67 [aq,uR]]⟩
def Xp:cx:=⟨⟨#[95,108,97,119,95,100,101,101,100]⟩,3,17,[],[.asg (.ns [3,4])<|.tup [.sub aq<|.c<|.str EF,.sub aq<|.c<|.str CP],.aN (oB aB jA) [.ret<|.call 79 [aq,aB,aF]] [],.aN (aj aB vX) [xS<|.call 38 [.sub aq<|.c<|.str jy,.sub bC gV],B6<|.comp (.bi .any<|.comp (dR Lk<|.tup [bJ,yd,.c<|.int 64,.c<|.int 256]) [(.v 14,GN,[])]) [(.v 13,.sub cW gV,[])],UB<|cY<|dM iC,.asg (.v 8)<|.comp (.sub (.sub bC gV) QX) [(.v 15,qf,[.sub iC QX])],.ex<|.bm .extend AI [.comp (.sub (.sub bC gV) Lj) [(.v 16,qf,[.not<|.sub iC Lj])]],QE<|aj en AI,.ex<|aI en [.neg bJ],.ret GL] [],.aN (aj aB xM) [.ex<|.call 78 [.sub bC<|.bin .Mod aF jA,.bin .FloorDiv aF jA],.ex<|.call 78 [.sub cW<|.bin .Mod aF jA,.bin .FloorDiv aF jA],.asg (.sub (.sub aq<|.c<|.str Hl)<|.bin .Mod aF jA)<|.sl (.sub bC<|.bin .Mod aF jA) none none,.ret<|.c<|.bool true] [],z8<|.sub cW gM,.asg (.v 11)<|.neg bJ,.bB (.v 12) (cY<|dM uR) [.aN (.and [aj (.sub (.sub uR AJ) bJ) gV,.or [aj (.sub (.sub (.sub uR AJ) aH) aH)<|.c<|.str A0,aj (.sub (.sub uR AJ) aH)<|.tup [.c<|.str wI,JU,aH]]]) [.asg (.v 11) AJ] []],.aN (.and [aj aB sy,D7 GP aH]) [xS<|.call 35 [.sub aq<|.c<|.str yG,.sub bC gM,GP,.bin .Mod aF gM]] [xS<|.call 36 [.sub aq<|.c<|.str yG,.sub bC gM,.bin .Mod aF gM]],.ret<|aj en<|.call 72 [aq,uR,.bin .Mod aF gM]]⟩
def KY:cx:=⟨⟨#[95,108,97,119,95,119,111,114,108,100]⟩,1,24,[],[Eg<|.new 0 [],pX<|.vP [.c<|.str jy,.c<|.str yG,.c<|.str Hm] [aB,.new 1 [aB],.call 9 [aB,.c<|.str yH]],.asg (.ns [3,4])<|.tup [.call 1 [aB,.c<|.str ⟨#[97]⟩,aH],.call 1 [aB,.c<|.str ⟨#[98]⟩,aH]],.asg (.sub aF<|.c<|.str ⟨#[97,116,111,109,115]⟩)<|.lst [bC,cW,vX,.call 2 [aB,bJ,aH],.call 2 [aB,gM,aH],xM,yd,XQ,sy,jA,gV,aH,bJ],.asg (.sub aF<|.c<|.str ⟨#[109,101,109,98,101,114]⟩)<|.nh aB kQ [.tup [sy,bJ,.c<|.str ⟨#[65]⟩,bJ,aH]],.asg (.sub aF<|.c<|.str ⟨#[116,104,105,110,103]⟩)<|.nh aB kQ [.tup [yd,.tup [.tup [.c<|.str ⟨#[120]⟩,vX,aH,aH]],.tup [],.tup [],.tup [],.tup [],aH]],xS<|.call 64 [aq],B6<|.comp (.sub (.c<|.tup [.int 1,.int 8,.int 512,.int 256,.int 128,.int 3,.int 4,.int 192,.int 2,.int 64,.int 16,.int 1024,.int 2048,.int 0,.int 520,.int 4096,.int 516,.int 768,.int 32])<|.call 62 [aq,JV]) [(.v 17,cY<|.call 62 [aq,jA],[])],UB<|.comp (.sub (.c<|.tup [.int 1,.int 8,.int 512,.int 256,.int 128,.int 3,.int 4,.int 192,.int 2,.int 64,.int 16,.int 1024,.int 2048,.int 0,.int 520,.int 4096,.int 516,.int 768,.int 32])<|.call 62 [aq,JV]) [(.v 18,cY<|.call 62 [aq,jA],[])],.asg (.v 8)<|.sub (.c<|.tup [.int 779,.int 1803,.int 1540,.int 228,.int 193,.int 2048,.int 1024,.int 0,.int 27,.int 740])<|.call 62 [aq,zW],QE<|.comp (.sub (.c<|.tup [.tup [.int 4],.tup [.int 1],.tup [],.tup [.int 512],.tup [.int 256],.tup [.int (-2)],.tup [.int 4,.int 8],.tup [.int 192],.tup [.int 3,.int 4],.tup [.int 64,.int 4]])<|.call 62 [aq,zW]) [(.v 19,cY<|.call 62 [aq,sy],[])],.asg (.sub aF<|.c<|.str CP)<|.lst [.prom iC,.prom qf,.prom en,.prom GL],.asg (.sub aF<|.c<|.str ⟨#[115,117,98,106,101,99,116]⟩)<|.tup [.call 67 [aF,AI],AI],z8<|.lst [],.bB (.ns [11,12]) en [.ex<|aI uR [.tup [.ite (aj AJ gV) (.call 68 [aF,GP])<|.call 67 [aF,GP],AJ]]],.asg (.v 13)<|.lst [],.bB (.v 14) GL [.asg (.v 15)<|.comp (.tup [.c<|.str ⟨#[120]⟩,.call 67 [aF,.v 20],aH]) [(.v 20,Lk,[])],.ex<|aI GN [.call 8 [aB,.tup [],fW QX,gV]]],.asg (.v 16)<|.comp (.prom<|.comp (.call 67 [aF,.v 22]) [(.v 22,.v 21,[])]) [(.v 21,.tup [iC,qf],[])],.asg (.sub aF<|.c<|.str EF)<|.lst [.sub Lj aH,.sub Lj bJ,.prom uR,.prom GN],.asg (.sub aF<|.c<|.str Hl)<|.prom<|.comp (.sl (.v 23) none none) [(.v 23,.sub aF<|.c<|.str EF,[])],.ret aF]⟩
def KW:cx:=⟨⟨#[108,97,119]⟩,1,10,[],[Eg<|.sl aq none<|some u5,pX<|.lst [],.bB (.v 3) (cY u5) [.ex<|aI aF [eZ (.sub (.c<|.tup [.int 3,.int 0,.int 0,.int 2,.int 1,.int 0,.int 1,.int 2,.int 0,.int 2,.int 2,.int 3,.int 0,.int 0,.int 3,.int 0,.int 6,.int 1,.int 0,.int 1,.int 3,.int 3,.int 6,.int 0,.int 5,.int 1,.int 2,.int 0,.int 7,.int 1,.int 1,.int 0]) bC)<|.ite aB (.sub aB<|.bin .Mod bC<|dM aB) aH]],.ex<|.bm .reverse aF [],ux<|.call 81 [aF],xS<|.sl (.dw (.sub cW<|.c<|.str jy) g9) none none,B6<|.lst [.tup [jA,.call 62 [aF,uu]]],.bB (.v 7) (cY<|eZ gM<|.call 62 [aF,gV]) [.asg (.v 8)<|.call 62 [aF,yd],.ex<|aI iC [.tup [AI,.call 62 [aF,uu]]]],.bB (.ns [8,9]) (eZ iC iC) [.aN (.or [.not<|.call 80 [cW,AI,GL],iZ (.sub cW<|.c<|.str EF)<|.sub cW<|.c<|.str Hl]) [.ret<|.c<|.bool false] []],.ret<|aj (.sl (.dw (.sub cW<|.c<|.str jy) g9) none<|some<|dM en) en]⟩
def f83:cx:=⟨⟨#[95,95,105,110,105,116,95,95]⟩,1,2,[],[.asg (.dw aq g9)<|.prom<|.lst [],.asg (.dw aq EI)<|.prom<|.vP [] [],.asg (.dw aq ⟨#[100,101,99,108,115]⟩)<|.prom<|.lst [.c .none],.asg (.dw aq EJ)<|.prom<|.lst [],.asg (.dw aq CR)<|.prom<|.lst [],.asg (.dw aq Hn)<|.prom<|.lst [],.asg (.dw aq ⟨#[111,114,105,103,105,110,115]⟩)<|.prom<|.vP [] [],.asg (.dw aq ⟨#[114,101,110,97,109,101,100]⟩)<|.prom<|.vP [] [],.asg (.dw aq ⟨#[115,104,97,112,105,110,103]⟩) aH,.asg (.dw aq ⟨#[112,117,116,116,105,110,103]⟩) aH,.bB (.v 1) (.c<|.tup [.tup [.int 1,.str ⟨#[97,110,121]⟩],.tup [.int 1,.str ⟨#[117,110,107,110,111,119,110]⟩],.tup [.int 1,.str ⟨#[110,101,118,101,114]⟩],.tup [.int 1,.str ⟨#[118,111,105,100]⟩],.tup [.int 1,.str ⟨#[117,110,100,101,102,105,110,101,100]⟩],.tup [.int 1,.str ⟨#[110,117,108,108]⟩],.tup [.int 1,.str ⟨#[115,116,114,105,110,103]⟩],.tup [.int 1,.str ⟨#[110,117,109,98,101,114]⟩],.tup [.int 2,.int 0,.int 0],.tup [.int 2,.int 1,.int 0],.tup [.int 1,.str ⟨#[111,98,106,101,99,116]⟩],.tup [.int 8,.tup [],.tup [],.tup [],.tup [],.tup [],.int 0],.tup [.int 6,.tup [.int 8,.int 9]],.tup [.int 1,.str ⟨#[101,114,114,111,114]⟩],.tup [.int 2,.int 0,.int 1],.tup [.int 2,.int 1,.int 1]]) [.ex<|.nh aq kQ [aB]]]⟩
def f84:cx:=⟨kQ,2,3,[],[.aN (dR aB<|.dw aq EI) [.ret<|.sub (.dw aq EI) aB] [],pX<|dM<|.dw aq g9,.ex<|aI (.dw aq g9) [aB],.asg (.sub (.dw aq EI) aB) aF,.ret aF]⟩
def f85:cx:=⟨⟨#[95,95,105,110,105,116,95,95]⟩,2,2,[],[.asg (.dw aq jy) aB,.asg (.dw aq ⟨#[100,101,101,112]⟩) aH,.asg (.dw aq ⟨#[109,111,115,116,95,114,111,117,110,100,115]⟩)<|.c<|.int 200,.asg (.dw aq ⟨#[109,111,115,116,95,100,101,101,112]⟩)<|.c<|.int 40,.asg (.dw aq ⟨#[108,105,98]⟩)<|.c .none]⟩
def f86:cx:=⟨EH,2,2,[],[.ret aB]⟩
noncomputable def XB(a:cx):cx:={a with body:=a.body.map λ_=>.bad}
def FT:List cx:=[f0,f1,f2,f3,f4,f5,f6,f7,f8,f9,Y7,Y6,Tl,Y5,Xu,Y4,Tj,Xs,Xr,Y3,Xq,Ti,Y0,f23,f24,f25,f26,f27,f28,f29,f30 87,f31,N2,f33,f34,Jx 88,uY 35,YZ,f38,f39,f40,f41,f42,f43,f44,f45,Qq,f47 99,f48,f49,f50,f51,f52,f53,f54,f55,f56,f57,f58,f59,YY,f61,f62,f63,YX,f65,f66,f67,Gn 95,f69 97,YW,f71,Qp,f73,f74,f75,f76,f77,f78,f79,Xp,KY,KW,f83,f84,f85,f86,f30 94,uY 89,Jx 90,uY 91,Jx 92,uY 93,XB<|Jx 0,XB<|f30 0,Gn 96,XB<|Gn 0,f69 98,XB<|f69 0,XB<|f47 0]
def CT:List QJ:=[⟨⟨#[84,121,112,101,84,97,98,108,101]⟩,83,[(kQ,84)]⟩,⟨⟨#[82,101,102,72,111,115,116]⟩,85,[(EH,86)]⟩]
noncomputable def GTl:List (Str×PV):=[(⟨#[89,95,83,84,82]⟩,.int 3),(⟨#[89,95,78,85,77]⟩,.int 4),(⟨#[89,95,65,82,82,65,89]⟩,.int 11),(⟨#[69,95,78,69,69,68]⟩,.int 0),(⟨#[69,95,79,80,84]⟩,.int 1),(⟨#[69,95,82,69,83,84]⟩,.int 2),(⟨#[69,95,83,80,82,69,65,68]⟩,.int 3),(⟨#[89,95,84,85,80,76,69]⟩,.int 12),(⟨#[89,95,83,73,71]⟩,.int 13),(⟨#[89,95,80,65,82,65,77]⟩,.int 10),(⟨#[78,69,86,69,82]⟩,.int 2),(⟨#[89,95,85,78,73,79,78]⟩,.int 6),(⟨#[89,95,84,80,76]⟩,.int 18),(⟨#[83,84,82,73,78,71]⟩,.int 6),(⟨#[78,85,77,66,69,82]⟩,.int 7),(⟨#[89,95,69,78,85,77]⟩,.int 5),(⟨#[77,65,82,75,69,68,95,82,79,87,83]⟩,.tup [.int 2,.int 3,.int 4,.int 5,.int 8]),(⟨#[70,65,76,83,69,95,84]⟩,.int 8),(⟨#[70,82,69,83,72,95,70]⟩,.int 14),(⟨#[84,82,85,69,95,84]⟩,.int 9),(⟨#[70,82,69,83,72,95,84]⟩,.int 15),(⟨#[65,78,89]⟩,.int 0),(⟨#[69,82,82]⟩,.int 13),(⟨#[85,78,75,78,79,87,78]⟩,.int 1),(⟨#[77,65,88,95,85,78,73,79,78]⟩,.int 400),(⟨#[85,78,68,69,70]⟩,.int 4),(⟨#[76,73,84,69,82,65,76,95,82,79,87,83]⟩,.tup [.int 2,.int 3,.int 4,.int 5]),(⟨#[78,85,76,76,84]⟩,.int 5),(⟨#[89,95,75,69,89]⟩,.int 1),(⟨#[75,69,89,95,70,65,77,73,76,73,69,83]⟩,.cd [.int 3,.int 4,.int 5,.int 6,.int 7,.int 10] [.int 6,.int 5,.int 4,.int 1,.int 2,.int 7]),(⟨#[70,65,77,95,79,84,72,69,82]⟩,.int 0),(⟨#[89,95,66,79,79,76]⟩,.int 2),(⟨#[70,65,77,95,66,79,79,76]⟩,.int 3),(⟨#[79,66,74,69,67,84,95,82,79,87,83]⟩,.tup [.int 8,.int 9,.int 11,.int 12,.int 13]),(⟨#[70,65,77,95,79,66,74]⟩,.int 7),(⟨#[89,95,73,78,84,69,82]⟩,.int 7),(⟨#[70,65,77,95,83,84,82]⟩,.int 1),(⟨#[70,65,77,95,78,85,77]⟩,.int 2),(⟨#[70,65,77,95,78,85,76,76]⟩,.int 4),(⟨#[70,65,77,95,85,78,68,69,70]⟩,.int 5),(⟨#[70,65,77,95,86,79,73,68]⟩,.int 6),(⟨#[75,73,68,95,83,80,65,78,83]⟩,.cd [.int 11,.int 14,.int 15,.int 16,.int 17] [.tup [.int 1,.int 2],.tup [.int 1,.int 2],.tup [.int 1,.int 3],.tup [.int 1,.int 5],.tup [.int 2,.int 5]]),(⟨#[89,95,79,66,74]⟩,.int 8),(⟨#[89,95,82,69,70]⟩,.int 9),(⟨#[89,95,65,76,73,65,83]⟩,.int 19),(⟨#[89,95,67,79,78,68]⟩,.int 16),(⟨#[89,95,77,65,80,80,69,68]⟩,.int 17),(⟨#[79,80,69,78,95,75,73,78,68,83]⟩,.tup [.int 10,.int 14,.int 15,.int 16,.int 17,.int 19]),(⟨#[77,79,83,84,95,69,76,69,77,83]⟩,.int 10000),(⟨#[77,69,69,84,95,76,69,70,84]⟩,.int 1),(⟨#[77,69,69,84,95,82,73,71,72,84]⟩,.int 2),(⟨#[77,69,69,84,95,78,69,86,69,82]⟩,.int 0),(⟨#[77,69,69,84,95,66,79,84,72]⟩,.int 3),(⟨#[68,95,79,66,74,65,76,73,65,83]⟩,.int 3),(⟨#[69,77,80,84,89]⟩,.int 11),(⟨#[77,65,88,95,68,82,65,87,78]⟩,.int 200),(⟨#[89,95,73,78,68,69,88]⟩,.int 15),(⟨#[78,85,76,76,73,83,72]⟩,.tup [.int 4,.int 5,.int 6]),(⟨#[67,79,69,82,67,69,68]⟩,.tup [.int 1,.int 2,.int 3]),(⟨#[86,79,73,68]⟩,.int 3),(⟨#[80,82,73,77,73,84,73,86,69,83]⟩,.tup [.int 1,.int 2,.int 3,.int 4,.int 5,.int 6]),(⟨#[70,82,69,69,95,82,79,87,83]⟩,.tup [.int 10,.int 15,.int 16]),(⟨#[95,108,97,119,95,109,97,115,107,115]⟩,.tup [.int 1,.int 2,.int 4,.int 9,.int 36,.int 192,.int 256,.int 512,.int 768,.int 516,.int 195,.int 1024,.int 2048,.int 4096,.int 0,.int 24]),(⟨#[95,108,97,119,95,117,110,105,116,115]⟩,.tup [.int 1,.int 2,.int 8,.int 16,.int 64,.int 128,.int 256,.int 512]),(⟨#[95,108,97,119,95,116,101,115,116,115]⟩,.tup [.int 1,.int 8,.int 512,.int 256,.int 128,.int 3,.int 4,.int 192,.int 2,.int 64,.int 16,.int 1024,.int 2048,.int 0,.int 520,.int 4096,.int 516,.int 768,.int 32]),(⟨#[95,108,97,119,95,115,117,98,106,101,99,116,115]⟩,.tup [.int 779,.int 1803,.int 1540,.int 228,.int 193,.int 2048,.int 1024,.int 0,.int 27,.int 740]),(⟨#[95,108,97,119,95,112,97,114,97,109,115]⟩,.tup [.tup [.int 4],.tup [.int 1],.tup [],.tup [.int 512],.tup [.int 256],.tup [.int (-2)],.tup [.int 4,.int 8],.tup [.int 192],.tup [.int 3,.int 4],.tup [.int 64,.int 4]]),(⟨#[95,108,97,119,95,98,97,115,101]⟩,.tup [.int 3,.int 0,.int 0,.int 2,.int 1,.int 0,.int 1,.int 2,.int 0,.int 2,.int 2,.int 3,.int 0,.int 0,.int 3,.int 0,.int 6,.int 1,.int 0,.int 1,.int 3,.int 3,.int 6,.int 0,.int 5,.int 1,.int 2,.int 0,.int 7,.int 1,.int 1,.int 0]),(⟨#[70,73,82,83,84,95,82,79,87,83]⟩,.tup [.tup [.int 1,.str ⟨#[97,110,121]⟩],.tup [.int 1,.str ⟨#[117,110,107,110,111,119,110]⟩],.tup [.int 1,.str ⟨#[110,101,118,101,114]⟩],.tup [.int 1,.str ⟨#[118,111,105,100]⟩],.tup [.int 1,.str ⟨#[117,110,100,101,102,105,110,101,100]⟩],.tup [.int 1,.str ⟨#[110,117,108,108]⟩],.tup [.int 1,.str ⟨#[115,116,114,105,110,103]⟩],.tup [.int 1,.str ⟨#[110,117,109,98,101,114]⟩],.tup [.int 2,.int 0,.int 0],.tup [.int 2,.int 1,.int 0],.tup [.int 1,.str ⟨#[111,98,106,101,99,116]⟩],.tup [.int 8,.tup [],.tup [],.tup [],.tup [],.tup [],.int 0],.tup [.int 6,.tup [.int 8,.int 9]],.tup [.int 1,.str ⟨#[101,114,114,111,114]⟩],.tup [.int 2,.int 0,.int 1],.tup [.int 2,.int 1,.int 1]]),(⟨#[77,79,83,84,95,82,79,85,78,68,83]⟩,.int 200),(⟨#[77,79,83,84,95,83,72,65,80,69,83]⟩,.int 40)]
def ANl:List Str:=[g9,EJ,CR,Hn,EI,jy,⟨#[107,105,110,100]⟩,⟨#[98,111,100,121]⟩,⟨#[100,101,99,108,115]⟩,⟨#[111,114,105,103,105,110,115]⟩,⟨#[114,101,110,97,109,101,100]⟩,⟨#[115,104,97,112,105,110,103]⟩,⟨#[112,117,116,116,105,110,103]⟩,⟨#[100,101,101,112]⟩,⟨#[109,111,115,116,95,114,111,117,110,100,115]⟩,⟨#[109,111,115,116,95,100,101,101,112]⟩,⟨#[108,105,98]⟩]
end Mine.Internal
end
section
open PySem PySem.Calls PyProof.Rows PySem.W
namespace Mine.Internal
section
structure mD where
 GT:List (Str×PV)
 FT:List cx
 CT:List QJ
 AN:List Str
 NG:Nat->Bool
structure Cx where
 prog:lH
 w:gL
 T:mD
 CA:List Addr
 FA:List Addr
 dD:Heap
 K:Frag
 mg:Str->Option Value
 mb:Str->Option Value
set_option genInjectivity true in
inductive cL where
 |fz (o:Obj)|gl (n:Nat)|fr|ce (i:Nat)|mu (i:Nat)|le (i:Nat)
noncomputable def cL.ctorIdx (x:cL):Nat:=x.casesOn (λ_=>0) (λ_=>1) 2 (λ_=>3) (λ_=>4) λ_=>5
structure Gh where
 O:Addr->Option cL
 F:List Addr
noncomputable abbrev qy(a:Array Value)(n:Nat):Obj:={cls:=.type "tuple",dict:=none,data:=.seq a n,slots:= #[]}
noncomputable abbrev jz(a:Array Value)(n:Nat):Obj:={cls:=.type "list",dict:=none,data:=.seq a n,slots:= #[]}
section
variable(Z:Cx)
mutual
def aA(W:Gh):PV->Value->Prop
 |.none,v=>v=.none
 |.bool b,v=>v=.bool b
 |.int i,v=>∃t,v=.int i t
 |.str s,v=>∃t,v=.str s t
 |.tup l,v=>∃a d n,v=.ref a/\W.O a=some (.fz<|qy d n)/\d.size<=az/\ah W l d.toList
 |.lst l,v=>∃a d n,v=.ref a/\W.O a=some (.fz<|jz d n)/\d.size<=az/\ah W l d.toList
 |.cd ks e,v=>∃a o,v=.ref a/\W.O a=some (.fz o)/\a≠sysModules/\((∃c,ks=c.map (λx=>.int x.1)/\o.IsDictOf (intKind Z.prog Z.w) c/\c.length<=az/\ah W e (c.map (·.2)))\/(∃c,ks=c.map (λx=>.str x.1)/\o.IsDictOf (strKind Z.prog Z.w) c/\c.length<=az/\ah W e (c.map (·.2))))
 |.aZ n,v=>∃a,W.F[n]?=some a/\v=.ref a
 |.iH i,v=>∃a t u f,v=.ref a/\i<2^20/\W.O a=some (.fz {cls:=.type "range",dict:=none,data:=.fields #[.int 0 t,.int i u,.int 1 f],slots:= #[]})
def ah(W:Gh):List PV->List Value->Prop
 |[],[]=>True
 |p::b,v::a=>aA W p v/\ah W b a
 |_,_=>False
end
structure Gh.Le (W W':Gh):Prop where
 fz:∀a o,W.O a=some (.fz o)->W'.O a=some (.fz o)
 gl:∀(n:Nat)(a:Addr),W.F[n]?=some a->W'.F[n]?=some a
variable{Z}
theorem Gh.Le.rfl {W:Gh}:W.Le W:=⟨λ_ _ h=>h,λ_ _ h=>h⟩
theorem Gh.Le.trans {W:Gh} (x:W.Le u) (y:u.Le q):W.Le q:=⟨λa o h=>y.fz a o<|x.fz a o h,λn a h=>y.gl n a<|x.gl n a h⟩
mutual
theorem aA.mono {W J:Gh} (x:W.Le J):∀{p:PV}{v:Value},aA Z W p v->aA Z J p v
 |.none,_,h=>h
 |.bool _,_,h=>h
 |.int _,_,h=>h
 |.str _,_,h=>h
 |.tup l,_,h=>by exact Et h λa F n e z D C=>⟨a,F,n,e,x.fz _ _ z,D,ah.mono x C⟩
 |.lst l,_,h=>by exact Et h λa F n e z D C=>⟨a,F,n,e,x.fz _ _ z,D,ah.mono x C⟩
 |.cd ks M,_,h=>by
  refine AG h λa o e z r0 q=>?_;refine⟨a,o,e,x.fz _ _ z,r0,?_⟩;rcases q with⟨E,I,H,D,C⟩|⟨E,I,H,D,C⟩
  .exact .inl ⟨E,I,H,D,ah.mono x C⟩
  .exact .inr ⟨E,I,H,D,ah.mono x C⟩
 |.aZ n,_,h=>by exact aO h λa e r=>⟨a,x.gl _ _ e,r⟩
 |.iH i,_,h=>by exact Zn h λa t u L e z r=>⟨a,t,u,L,e,z,x.fz _ _ r⟩
theorem ah.mono {W q:Gh} (x:W.Le q):∀{p:List PV}{v:List Value},ah Z W p v->ah Z q p v
 |[],[],_=>trivial
 |p::z,v::u,h=>⟨aA.mono x h.1,ah.mono x h.2⟩
 |[],_::_,h=>h.elim
 |_::_,[],h=>h.elim
end
section
variable{W:Gh}
theorem ah.on {D:List PV->List Value->Prop} (n:D [] []) (c:∀{p v u q},aA z W p v->ah z W u q->D u q->D (p::u) (v::q)):∀{v},ah z W p v->D p v:=by
 induction p with
 |nil=>exact λ{v} h=>by induction v with
  |nil=>exact n
  |cons=>exact h.elim
 |cons p u C=>exact λ{v} h=>by induction v with
  |nil=>exact h.elim
  |cons v q=>exact c h.1 h.2<|C h.2
variable{p:List PV} {v:List Value} (h:ah Z W p v)
include h
theorem ah.length:p.length=v.length:=h.on (D:=λp v=>p.length=v.length) rfl λ_ _ h=>congrArg dO h
theorem ah.append {q:List PV} {u:List Value} (k:ah Z W q u):ah Z W (p++q) (v++u):=h.on (D:=λp v=>ah Z W (p++q)<|v++u) k λa _ h=>⟨a,h⟩
theorem ah.get {n:Nat} {x:PV} (e:p[n]?=some x):∃y,v[n]?=some y/\aA Z W x y:=h.on (D:=λp v=>∀(n:Nat)(x:PV),p[n]?=some x->∃y,v[n]?=some y/\aA Z W x y) (λ_ _ e=>nE e) (λa _ h n x e=>by induction n with
  |zero=>exact sJ e▸⟨_,rfl,a⟩
  |succ n=>exact h n x e) n x e
theorem ah.get_none {n:Nat} (e:p[n]?=none):v[n]?=none:=mM<|h.length▸dy.mp e
theorem ah.take (n:Nat):ah Z W (p.take n) (v.take n):=h.on (D:=λp v=>∀n,ah Z W (p.take n) (v.take n)) (λn=>by induction n<;>trivial) (λa _ h n=>by induction n with
 |zero=>trivial
 |succ n=>exact⟨a,h n⟩) n
theorem ah.drop (n:Nat):ah Z W (p.drop n) (v.drop n):=h.on (D:=λp v=>ah Z W p v->∀n,ah Z W (p.drop n) (v.drop n)) (λ_ n=>by induction n<;>trivial) (λa b h z n=>by induction n with
 |zero=>exact z
 |succ n=>exact h b n) h n
theorem ah.set (n:Nat) {x:PV} {y:Value} (k:aA Z W x y):ah Z W (p.set n x) (v.set n y):=h.on (D:=λp v=>∀n,ah Z W (p.set n x) (v.set n y)) (λ_=>trivial) (λa b h n=>by induction n with
 |zero=>exact⟨k,b⟩
 |succ n=>exact⟨a,h n⟩) n
theorem ah.eraseIdx (n:Nat):ah Z W (p.eraseIdx n) (v.eraseIdx n):=h.on (D:=λp v=>∀n,ah Z W (p.eraseIdx n) (v.eraseIdx n)) (λ_=>trivial) (λa b h n=>by induction n with
 |zero=>exact b
 |succ n=>exact⟨a,h n⟩) n
omit h in
theorem ah.one {p:PV} {v:Value} (h:aA Z W p v):ah Z W [p] [v]:=⟨h,trivial⟩
theorem ah.reverse:ah Z W p.reverse v.reverse:=h.on (D:=λp v=>ah Z W p.reverse v.reverse) trivial λa _ h=>by rw[bt,bt];exact h.append<|.one a
end
end
inductive Loc where
 |d (L:Addr) (x:Str)|c (a:Addr)
def bP(h:Heap):Loc->Value->Prop
 |.d L x,v=>∃m,h.Ns L m/\m x=some v
 |.c a,v=>h.IsCell a<|some v
def gn(W:Gh)(h:Heap)(i:Nat):Loc->Prop
 |.d L _=>W.O L=some .fr/\∃m,h.Ns L m
 |.c a=>W.O a=some (.ce i)/\∃v,h.IsCell a v
section
variable(Z:Cx)
def ey(W:Gh)(h:Heap)(a:Addr):RV->Prop
 |.v _=>False
 |.ml _ l=>∃c n,h.get? a=some (jz c n)/\c.size<=az/\ah Z W l c.toList
 |.md _ ks d=>a≠sysModules/\∃o,h.get? a=some o/\((∃b,ks=b.map (λx=>.int x.1)/\o.IsDictOf (intKind Z.prog Z.w) b/\b.length<=az/\ah Z W d (b.map (·.2)))\/(∃b,ks=b.map (λx=>.str x.1)/\o.IsDictOf (strKind Z.prog Z.w) b/\b.length<=az/\ah Z W d (b.map (·.2))))
def bV(i:Nat)(x:RV):cL:=if x.tag.isSome then .le i else .mu i
def oG(W:Gh)(h:Heap)(i:Nat):RV->Value->Prop
 |.v x,v=>aA Z W x v
 |x,v=>∃a,v=.ref a/\W.O a=some (bV i x)/\ey Z W h a x
def ky(W:Gh)(h:Heap):RV->Value->Prop
 |.v x,v=>aA Z W x v
 |x,v=>x.tag=none/\∃a,v=.ref a/\W.O a=none/\ey Z W h a x
end
theorem iG{i:Decidable c}{Q:d->Shared->Prop}(h:¬c)(k:wpAny M A b Q E s):wpAny M A (if c then a else b) Q E s:=(if_neg h).symm▸k
theorem nY{i:Decidable c}{Q:d->Shared->Prop}(h:c)(k:wpAny M A a Q E s):wpAny M A (if c then a else b) Q E s:=(if_pos h).symm▸k
end
end Mine.Internal
end
section
open PySem PySem.Calls PyProof.Rows PySem.W
open scoped Classical
namespace Mine.Internal
theorem bc.of {l:List F}:∀{m},l.length=m.length->(∀(j:Nat)(x)(y:E),l[j]?=some x->m[j]?=some y->P x y)->bc P l m:=by
 induction l with
 |nil=>
  intro u;induction u with
  |nil=>exact λ_ _=>.nil
  |cons _ _=>exact λh _=>nomatch h
 |cons _ _ z=>
  intro q;induction q with
  |nil=>exact λh _=>nomatch h
  |cons _ _=>exact λh k=>.cons (k 0 _ _ rfl rfl)<|z (fg h) λj x y D C=>k (j+1) x y D C
theorem bc.mem {l:List u} {m} (x:bc P l m):∀y∈m,∃x,P x y:=by
 induction x with
 |nil=>exact λ_ h=>nomatch h
 |cons p _ q=>exact λy h=>(rc.mp h).elim (λe=>e▸⟨_,p⟩)<|q y
inductive KR(h:Heap):Nat->PV->Value->Prop
 |int {n:Nat} (i:Int) (t:Tok):KR h n (.int i) (.int i t)
 |str {n:Nat} (s:Str) (t:Tok):i5 s=true->KR h n (.str s) (.str s t)
 |tup {n:Nat} {l:List PV} {a:Addr} {o:Obj} {b:Array Value} {m:Nat}:h.get? a=some o->o.cls=.type "tuple"->o.data=.seq b m->l.length=b.toList.length->(∀(j:Nat)(x:PV)(y:Value),l[j]?=some x->b.toList[j]?=some y->KR h n x y)->KR h (n+1) (.tup l) (.ref a)
theorem KR.keeps (C:h.get? d=some od) (F:od.data=.dict I J) (z:cR d h H) (x:KR h n k v):KR H n k v:=by
 induction x with
 |int=>exact .int ..
 |str _ _ E=>exact .str _ _ E
 |tup g c q D _ u=>
  refine .tup ((z.2 _ λe=>?_).trans g) c q D u;subst e;obtain rfl:=sJ<|C.symm.trans g
  exact nomatch F.symm.trans q
mutual
noncomputable def DK(w:gL):PV->Int
 |.int i=>hashInt i
 |.str s=>hashStr w s
 |.tup l=>reduceHash<|bu<|iI w l
 |.none=>0|.bool _=>0|.lst _=>0|.cd _ _=>0|.aZ _=>0|.iH _=>0
noncomputable def iI(w:gL):List PV->List Int
 |[]=>[]
 |x::l=>DK w x::iI w l
end
mutual
noncomputable def DX:PV->Nat
 |.tup l=>kZ l+1
 |.int _=>1|.str _=>1|.none=>1|.bool _=>1|.lst _=>1|.cd _ _=>1|.aZ _=>1|.iH _=>1
noncomputable def kZ:List PV->Nat
 |[]=>0
 |x::l=>DX x+kZ l
end
theorem uW(w)(l):∀(m),iI w (l++m)=iI w l++iI w m:=by
 induction l with
 |nil=>exact@λ_=>rfl
 |cons _ l a=>exact@λm=>congrArg (KC _)<|a m
theorem uZ(l):∀(m),kZ (l++m)=kZ l+kZ m:=by
 induction l with
 |nil=>exact@λ_=>(ss _).symm
 |cons _ l a=>exact@λm=>(congrArg (_+ ·)<|a m).trans (wn ..).symm
section
variable{prog:lH} {w:gL} {E:Value->Shared->Prop}
def uD(prog:lH)(w:gL)(E:Value->Shared->Prop)(h:Heap)(n:Nat)(k:PV)(v:Value):Prop:=∀{A:dA}{s:Shared}{Q:Int->Shared->Prop},s.heap=h->A.units+n<cLine->Q (DK w k) {s with toks:=s.toks+DX k}->wpAny (model prog w) A (pyHash v) Q E s
theorem Je(y:h.get? a=some o)(H:o.cls=.type "tuple")(D:o.data=.seq f m)(C:bc (uD prog w E h n) l f.toList):uD prog w E h (n+1) (.tup l) (.ref a):=by
 intro A s Q z I q;subst z;have i:s.TypeIs (.ref a) "tuple":=⟨o,y,H⟩
 first|unfold pyHashByItsType|skip
 first|refine dL (wpAny_cRoomFor_or (.inr (by omega)) ?_)|skip
 refine dL<|gO i F.slot_tuple_hash.lookup ?_
 refine iG (by rw[beq_builtin_none];exact xz) ?_
 refine dL<|gO i F.slot_tuple_hash.lookup ?_
 refine dL<|wpAny_callSpecialIfBoundUnlessNone?_slot i F.slot_tuple_hash<|ja F.slot_tuple_hash i F.entry_tuple_hash ?_<|F.args_tuple_hash_1 _
 show wpAny _ _ (oR (.ref a)>>=_) _ _ s;refine dL<|wpAny_tupleItemsOf y D ?_
 refine dL ?_;rw[<-Es];refine UI _ (λe(b:Array Int) j=>∃c left,l=c++left/\bc (uD prog w E s.heap n) left e/\b.toList=iI w c/\j={s with toks:=s.toks+kZ c})
  _ ?_ ?_ _ _ ⟨[],l,rfl,C,rfl,rfl⟩
 .rintro x e b j ⟨c,left,rfl,t,u,rfl⟩;cases t with
  |cons p r=>
   rename_i k ks;have g:∃d left,c++k::ks=d++left/\bc (uD prog w E s.heap n) left e/\(b.push<|DK w k).toList=iI w d/\({s with toks:=s.toks+kZ c+DX k}:Shared)={s with toks:=s.toks+kZ d}:=⟨c++[k],ks,by rw[sK];rfl,r,by rw[Ge,u,uW];rfl,by rw[uZ,<-wn];rfl⟩
   refine dL<|p (A:=A.in1) rfl (by show A.units+1+n<cLine;omega) ?_
   first
    |exact wpAny_pure g
    |exact dL<|wpAny_pure<|wpAny_pure g
 .rintro b j ⟨c,left,rfl,t,u,rfl⟩;cases t;rw[u8]at q;show wpAny _ _ (retInt<|bu b.toList) _ _ _
  rw[u];refine wpAny_ret_mkInt ?_;show wpAny _ _ (if(decide (-(2:Int)^63<=bu (iI w c))&&decide (bu (iI w c)<2^63))=true then _ else _) Q E _
  change Q (reduceHash<|bu<|iI w c) {s with toks:=s.toks+kZ c+1}at q
  delta reduceHash at q;by_cases v:(decide (-(2:Int)^63<=bu (iI w c))&&decide (bu (iI w c)<2^63))=true
  .rw[if_pos v]at q⊢;exact wpAny_pure q
  .rw[if_neg v]at q⊢;exact dL<|i9<|wpAny_pure q
theorem HF(d:KR h n k v):uD prog w E h n k v:=by
 induction d with
 |int i t=>exact λ_ _ q=>wpAny_pyHash_int q
 |str s t _=>exact λ_ _ q=>wpAny_pyHash_str q
 |tup b f e c _ a=>exact Je b f e<|.of c a
def sG(prog:lH)(w:gL)(E:Value->Shared->Prop)(h:Heap)(n:Nat)(v:Value):Prop:=∀{q:Nat}{A:dA}{s:Shared}{Q:Bool->Shared->Prop},s.heap=h->n<=q->Q true s->wpAny (model prog w) A (eqIsQuiet q v) Q E s
theorem ET(k:h.get? a=some o)(z:o.cls=.type "tuple")(y:o.data=.seq e m)(x:∀v∈e.toList,sG prog w E h n v):sG prog w E h (n+1) (.ref a):=by
 intro q A s Q t j h;subst t;have l:s.TypeIs (.ref a) "tuple":=⟨o,k,z⟩;cases q with
 |zero=>exact nomatch j
 |succ D=>
 unfold eqIsQuiet;refine dL<|gO l F.slot_tuple_eq.lookup ?_
 refine dL<|UG l isSubtype_tuple_tuple ?_
 refine iG (c:=(!true)=true) xz ?_;refine dL<|wpAny_seqItems k y ?_
 refine dL ?_;rw[<-Es];refine UI _ (λb r f=>r.1=none/\f=s/\∀v∈b,sG prog w E s.heap n v) _ ?_ ?_ _ _ ⟨rfl,rfl,x⟩
 .rintro v b r f ⟨i,rfl,d⟩;refine dL<|d v gv rfl (bH j) ?_
  exact iG (c:=(!true)=true) xz<|wpAny_pure ⟨rfl,rfl,λu g=>d u<|cD _ g⟩
 .rintro⟨p,C⟩ f ⟨i,rfl,_⟩;obtain rfl:=(show p=none from i);exact wpAny_pure h
theorem Ma(e:KR h n k v):sG prog w E h n v:=by
 induction e with
 |int i t=>intro q A s Q _ _ h;rw[Ug q rfl];exact wpAny_pure h
 |str i t _=>intro q A s Q _ _ h;rw[Ug q rfl];exact wpAny_pure h
 |tup c g f d _ a=>exact ET c g f λv b=>((bc.of d a).mem v b).elim λ_ z=>z
end
mutual
noncomputable def toD:PV->gW
 |.int i=>.int i
 |.str s=>.str s
 |.tup l=>.tuple<|AQ l
 |.none=>.none|.bool _=>.none|.lst _=>.none|.cd _ _=>.none|.aZ _=>.none|.iH _=>.none
noncomputable def AQ:List PV->List gW
 |[]=>[]
 |x::l=>toD x::AQ l
end
structure nP(h:Heap)(v:Value)(d:gW)(n:Nat):Prop where
 rd:∃as,Reads h v d as
 lay:d.canLay0=true
 dep:d.depth<=n
structure lj(h:Heap)(vs:List Value)(ds:List gW)(n:Nat):Prop where
 rd:∃as,ReadsAll h vs ds as
 lay:ca ds=true
 dep:Gv ds<=n
theorem lj.cons (x:nP h v d n) (y:lj h q C n):lj h (v::q) (d::C) n:=x.rd.elim λ_ z=>y.rd.elim λ_ u=>⟨⟨_,ReadsAll.cons z u⟩,sB.mpr ⟨x.lay,y.lay⟩,Da.mpr ⟨x.dep,y.dep⟩⟩
theorem lj.Rl (q:lj h u.toList F n) (z:h.get? a=some o) (E:o.cls=.type "list") (D:o.data=.seq u m):nP h (.ref a) (.list F) (n+1):=⟨q.rd.elim λ_ C=>⟨_,UM z E D C⟩,q.lay,by rw[Pa];exact b6 q.dep⟩
theorem lj.VD (q:lj h u.toList F n) (z:h.get? a=some o) (E:o.cls=.type "tuple") (D:o.data=.seq u m):nP h (.ref a) (.tuple F) (n+1):=⟨q.rd.elim λ_ C=>⟨_,Ui z E D C⟩,q.lay,by rw[Pa];exact b6 q.dep⟩
theorem HC(x:bc (λk v=>nP h v (toD k) n) l a):lj h a (AQ l) n:=by
 induction x with
 |nil=>exact⟨⟨_,Kr⟩,rfl,Rs _⟩
 |cons p _ b=>exact .cons p b
theorem si(x:KR h n k v):nP h v (toD k) n:=by
 induction x with
 |int i t=>exact⟨⟨_,Reads.int _ _⟩,rfl,Rs _⟩
 |str s t z=>exact⟨⟨_,Reads.str _ _⟩,z,Rs _⟩
 |tup b e d c _ a=>exact(HC<|.of c a).VD b e d
inductive KP:PV->Prop
 |int (i:Int):KP (.int i)
 |str (s:Str):KP (.str s)
 |tup {l:List PV}:(∀x∈l,KP x)->KP (.tup l)
theorem KR.kp (x:KR h n k v):KP k:=by
 induction x with
 |int=>exact .int _
 |str=>exact .str _
 |tup _ _ _ C _ u=>refine .tup λx z=>?_;obtain⟨j,q⟩:=dh.mp z;exact u j x _ q<|At<|C▸((ty.mp q).1)
theorem Tn(h:∀x∈l,∀{q:PV},KP q->(TW (toD x) (toD q)=true↔x=q)):∀{m},(∀x∈m,KP x)->(K9 (AQ l) (AQ m)=true↔l=m):=by
 induction l with
 |nil=>intro m _;induction m with
  |nil=>exact⟨λ_=>rfl,λ_=>rfl⟩
  |cons=>exact⟨(λh=>nomatch h),(λh=>nomatch h)⟩
 |cons x l c=>
  intro m b;induction m with
  |nil=>exact⟨(λh=>nomatch h),(λh=>nomatch h)⟩
  |cons y m=>
   show((TW (toD x)<|toD y)&&K9 (AQ l) (AQ m))=true↔_
   rw[sB,(h x (.head _)<|b y<|.head _),(c (λx a=>h x<|.tail _ a) λx a=>b x<|.tail _ a),KC.injEq]
theorem Xx:TW (.int i) (.int j)=true↔i=j:=by simp[TW]
theorem Xw:TW (.str i) (.str j)=true↔i=j:=by simp[TW]
theorem JA(x:KP k):∀{q},KP q->(TW (toD k) (toD q)=true↔k=q):=by
 induction x with
 |int i=>
  intro q y;induction y with
  |int j=>exact Xx.trans ⟨congrArg _,PV.int.inj⟩
  |_=>exact⟨nofun,nofun⟩
 |str i=>
  intro q y;induction y with
  |str j=>exact Xw.trans ⟨congrArg _,PV.str.inj⟩
  |_=>exact⟨nofun,nofun⟩
 |tup _ a=>
  intro q y;induction y with
  |tup c=>exact(Tn (λx b=>a x b) c).trans (PV.tup.injEq .. ▸AD)
  |_=>exact⟨nofun,nofun⟩
theorem KR.inj (u:KR h n x v) (q:KR h n y v):x=y:=
 have a:=si u
 a.rd.elim λ_ C=>(si q).rd.elim λ_ z=>(JA u.kp q.kp).mp<|(Reads.unique C _ _ z).1▸uO _ a.lay
def X8(h:Heap)(k:PV)(a:Addr):Prop:=KR h 6 k<|.ref a
def kR(c:lH)(w:gL):HeapKind c w PV where
 is:=X8
 hash:=DK w
 draws:=DX
 room:=λA=>A.units+64<cLine
 inj:=λf d=>KR.inj f d
 keeps:=λx o p n=>KR.keeps o p n x
 pyHash:=λg i h=>HF i rfl (Ev (fY (by decide) _) g) h
 eqBool:=λ{A E s x y a b Q} g f d h=>by
  have j:=si f;have k:=si d;refine j.rd.elim λ_ m=>k.rd.elim λ_ l=>PySem.SeqAt.eqBoolOverData c w A E s (.ref a) (.ref b) _ _ _ _ Q m l j.lay k.lay (ac (db (am (uP _ _) j.dep) _)<|Ev (fY (by decide) _) g) ?_
  have:TW (toD x) (toD y)=decide (x=y):=by
   cases e:TW (toD x) (toD y)with
   |true=>exact(decide_eq_true<|(JA f.kp d.kp).mp e).symm
   |false=>exact(decide_eq_false λq=>ff<|e.symm.trans<|(JA f.kp d.kp).mpr q).symm
  rw[this];exact h
 quiet:=λi h=>Ma i rfl (by decide) h
noncomputable def Gh.tag (W:Gh) (a:Addr) (t:Option cL):Gh:={W with O:=λb=>if b=a then t else W.O b}
theorem Gh.aG (W:Gh) (a) (t):(W.tag a t).O a=t:=by simp[Gh.tag]
theorem Gh.ag (W:Gh) (t) (h:b≠a):(W.tag a t).O b=W.O b:=by simp[Gh.tag,h]
theorem dY(i)(a):bV i a=.mu i\/bV i a=.le i:=by
 delta bV;induction a.tag with
 |none=>exact .inl rfl
 |some=>exact .inr rfl
theorem Px{t:cL}(h:t=.mu i\/t=.le i)(a:t=.mu j\/t=.le j):i=j:=h.elim (λh=>a.elim (λa=>cL.mu.inj<|h.symm.trans a) λa=>nomatch h.symm.trans a) λh=>a.elim (λa=>nomatch h.symm.trans a) λa=>cL.le.inj<|h.symm.trans a
theorem CB(q:bV j b=bV i a):i=j:=Px (dY i a)<|q▸dY j b
theorem Gh.Le.tag {W:Gh} (h:∀o,W.O a≠some (.fz o)):W.Le (W.tag a t):=⟨λb o e=>by
  by_cases q:b=a
  .subst q;exact absurd e<|h o
  .refine(Gh.ag _ _ q).trans ?_;exact e,λ_ _ e=>e⟩
structure gI(h h':Heap):Prop where
 keep:∀(b:Addr)(o:Obj),h.get? b=some o->h'.get? b=some o
theorem gI.rfl:gI h h:=⟨λ_ _ e=>e⟩
theorem gI.trans (x:gI h u) (y:gI u q):gI h q:=⟨λb o e=>y.keep b o<|x.keep b o e⟩
theorem gI.push (h) (o):gI h (h.push o):=⟨λ_ _ e=>bf o e⟩
section
variable(Z:Cx)
def mJ(W:Gh)(h:Heap)(n:Nat)(a:Addr):GO->Prop
 |.list l=>ey Z W h a<|.ml none l
 |.dict ks g=>a≠sysModules/\∃o b k,∃f:List (PV×Addr×Value),ks=f.map (·.1)/\h.get? a=some o/\o.ExactDict/\o.data=.dict b k/\b.toList=f.map (entryOfKey<|kR Z.prog Z.w)/\(∀x∈f,aA Z W x.1 (.ref x.2.1)/\isKey 6 x.1=true)/\(f.map (·.1)).Nodup/\f.length<=az/\ah Z W g (f.map (·.2.2))
 |.inst c=>∃C d m,Z.CA[c]?=some C/\W.F[n+1]?=some d/\h.get? a=some ⟨.ref C,some d,.plain,m⟩
 |.iK i g=>∃b k,h.get? a=some (dictOf b k)/\i.length=b.length/\(∀(j:Nat)(x:Str)(e:DictEntry),i[j]?=some x->b[j]?=some e->∃t,e.key=.str x t)/\i.length<=100/\ah Z W g (b.map (·.val))
structure aas(W:Gh)(h:Heap)(g:List GO):Prop where
 len:W.F.length=g.length
 at_:∀(n:Nat)(o:GO),g[n]?=some o->∃a,W.F[n]?=some a/\W.O a=some (.gl n)/\mJ Z W h n a o
structure Rel(locs:List (Option Loc))(W:Gh)(r:List (Option RV))(g:List GO)(h:Heap):Prop where
 sz:∀(a:Addr)(t:cL),W.O a=some t->∃o,h.get? a=some o
 fz:∀(a:Addr)(o:Obj),W.O a=some (.fz o)->h.get? a=some o
 base:∀(a:Addr)(o:Obj),Z.dD.get? a=some o->W.O a=some (.fz o)
 gl:aas Z W h g
 len:locs.length=r.length
 lo:∀(i:Nat)(loc:Loc),locs[i]?=some (some loc)->gn W h i loc
 ap:∀(i j:Nat)(L:Addr)(x:Str),locs[i]?=some (some<|.d L x)->locs[j]?=some (some<|.d L x)->i=j
 sl:∀(i:Nat)(rv:RV),r[i]?=some (some rv)->∃loc v,locs[i]?=some (some loc)/\bP h loc v/\oG Z W h i rv v
structure Ext(h:Heap)(W W':Gh):Prop where
 le:W.Le W'
 new:∀(b:Addr)(o:Obj),h.get? b=some o->W.O b=none->W'.O b=none
 fr:∀b:Addr,W.O b=some .fr->W'.O b=some .fr
 ce:∀(b:Addr)(i:Nat),W.O b=some (.ce i)->W'.O b=some (.ce i)
 gl:∀(b:Addr)(i:Nat),W.O b=some (.gl i)->W'.O b=some (.gl i)
 mu:∀(b:Addr)(i:Nat),W.O b=some (.mu i)->∃t,W'.O b=some t/\∀j,t≠.le j
 ln:∀(b:Addr)(i:Nat),W.O b=some (.le i)->W'.O b=some (.le i)\/∃o,W'.O b=some (.fz o)
 lw:∀(b:Addr)(i:Nat),W'.O b=some (.le i)->W.O b=some (.le i)
structure dN(W:Gh)(h h':Heap):Prop where
 free:∀(b:Addr)(o:Obj),h.get? b=some o->W.O b=none->h'.get? b=some o
 fr:∀(b:Addr)(o:Obj),h.get? b=some o->W.O b=some .fr->h'.get? b=some o
 ce:∀(b:Addr)(o:Obj)(i:Nat),h.get? b=some o->W.O b=some (.ce i)->h'.get? b=some o
structure mH(W:Gh)(h h':Heap):Prop where
 free:∀(b:Addr)(o:Obj),h.get? b=some o->W.O b=none->h'.get? b=some o
end
section
variable{locs:List (Option Loc)}
theorem Ext.rfl:Ext h W W:=⟨.rfl,λ_ _ _ e=>e,λ_ e=>e,λ_ _ e=>e,λ_ _ e=>e,λ_ _ e=>⟨_,e,by intro j q;cases q⟩,λ_ _ e=>.inl e,λ_ _ e=>e⟩
theorem Ext.up (x:Ext h W z) (e:W.O b=some t) (n:∀j,t≠.le j):∃u,z.O b=some u/\∀j,u≠.le j:=by
 induction t with
 |fz o=>exact⟨_,x.le.fz b o e,by intro j q;cases q⟩
 |gl m=>exact⟨_,x.gl b m e,by intro j q;cases q⟩
 |fr=>exact⟨_,x.fr b e,by intro j q;cases q⟩
 |ce i=>exact⟨_,x.ce b i e,by intro j q;cases q⟩
 |mu i=>exact x.mu b i e
 |le i=>exact absurd (Yv _)<|n i
theorem Ext.Cv (x:Ext h W H) (y:Ext F H C) (k:∀(b:Addr)(o:Obj),h.get? b=some o->W.O b=none->F.get? b=some o):Ext h W C:=⟨x.le.trans y.le,λb o q e=>y.new b o (k b o q e) (x.new b o q e),λb e=>y.fr b (x.fr b e),λb i e=>y.ce b i (x.ce b i e),λb i e=>y.gl b i (x.gl b i e),λb i e=>(x.mu b i e).elim λt u=>AH u λE D=>y.up E D,λb i e=>(x.ln b i e).elim (y.ln b i) λu=>fN u λo z=>.inr ⟨o,y.le.fz b o z⟩,λb i e=>x.lw b i (y.lw b i e)⟩
theorem Ext.tagged (x:Ext h W C) (e:W.O b=some t):∃u,C.O b=some u:=by
 induction t with
 |fz o=>exact⟨_,x.le.fz b o e⟩
 |gl n=>exact⟨_,x.gl b n e⟩
 |fr=>exact⟨_,x.fr b e⟩
 |ce i=>exact⟨_,x.ce b i e⟩
 |mu i=>exact(x.mu b i e).elim λt z=>⟨t,z.1⟩
 |le i=>exact(x.ln b i e).elim (λz=>⟨_,z⟩) λq=>fN q λo z=>⟨_,z⟩
theorem Ext.trans (x:Ext h W z) (y:Ext u z q) (k:dN W h u):Ext h W q:=x.Cv y k.free
theorem dN.rfl:dN W h h:=⟨λ_ _ e _=>e,λ_ _ e _=>e,λ_ _ _ e _=>e⟩
theorem dN.trans (x:dN W h C) (y:dN D C u) (e:Ext h W D):dN W h u:=⟨λb o q z=>y.free b o (x.free b o q z) (e.new b o q z),λb o q z=>y.fr b o (x.fr b o q z) (e.fr b z),λb o i q z=>y.ce b o i (x.ce b o i q z) (e.ce b i z)⟩
theorem dN.kT (x:gI h q):dN W h q:=⟨λb o e _=>x.keep b o e,λb o e _=>x.keep b o e,λb o _ e _=>x.keep b o e⟩
theorem dN.toS (x:dN W h q):mH W h q:=⟨x.free⟩
theorem mH.rfl:mH W h h:=⟨λ_ _ e _=>e⟩
theorem mH.trans (x:mH W h C) (y:mH D C u) (e:Ext h W D):mH W h u:=⟨λb o q z=>y.free b o (x.free b o q z)<|e.new b o q z⟩
theorem bP.keep (z:gn W h i q) (x:bP h q v) (k:dN W h E):bP E q v:=by
 induction q with
 |d L y=>refine aO x λm C e=>?_;exact xY C λo F H u r=>⟨m,⟨o,F,H,k.fr _ _ u z.1,r⟩,e⟩
 |c a=>exact aO x λo u D=>⟨o,k.ce _ _ _ u z.1,D⟩
theorem gn.re (x:gn W h i q) (k:∀{b:Addr}{t:cL},W.O b=some t->(∀j,t≠.mu j)->(∀j,t≠.le j)->u.O b=some t):gn u h i q:=by
 induction q with
 |d=>exact⟨k x.1 nofun nofun,x.2⟩
 |c=>exact⟨k x.1 nofun nofun,x.2⟩
theorem gn.keep (C:gn W h i q) (k:dN W h E) (e:Ext h W I):gn I E i q:=by
 induction q with
 |d L y=>obtain⟨z,m,o,F,H,u,r⟩:=C;exact⟨e.fr _ z,m,⟨o,F,H,k.fr _ _ u z,r⟩⟩
 |c a=>obtain⟨z,v,o,u,D⟩:=C;exact⟨e.ce _ _ z,v,o,k.ce _ _ _ u z,D⟩
theorem ey.at_ (x:ey H W h a rv) (z:W.Le L) (k:∀o,h.get? a=some o->h'.get? a=some o):ey H L h' a rv:=by
 induction rv with
 |v=>exact x
 |ml t l=>exact ju x λI n e s q=>⟨I,n,k _ e,s,q.mono z⟩
 |md t ks M=>
  obtain⟨J,o,e,q⟩:=x;refine⟨J,o,k o e,?_⟩;rcases q with⟨u,F,E,D,C⟩|⟨u,F,E,D,C⟩
  .exact .inl ⟨u,F,E,D,C.mono z⟩
  .exact .inr ⟨u,F,E,D,C.mono z⟩
theorem ey.gR (x:ey u W h a q):ey u W h a (q.gR t):=by induction q<;>exact x
theorem oG.at_ (x:oG H W h i rv v) (C:W.Le F) (k:∀a o,W.O a=some (bV i rv)->h.get? a=some o->F.O a=some (bV i rv)/\h'.get? a=some o):oG H F h' i rv v:=by
 induction rv with
 |v=>exact aA.mono C x
 |ml t l=>refine eV x λa e z q=>?_;exact nF (id q) λ_ _ D _=>⟨a,e,(k a _ z D).1,q.at_ C λu E=>(k a u z E).2⟩
 |md t ks I=>refine eV x λa e z q=>?_;obtain⟨_,o,D,_⟩:=id q;exact⟨a,e,(k a _ z D).1,q.at_ C λu E=>(k a u z E).2⟩
theorem ky.keep (x:ky I W h H v) (e:Ext h W L) (k:dN W h J):ky I L J H v:=by
 induction H with
 |v=>exact aA.mono e.le x
 |ml t l=>obtain⟨u,a,E,z,q⟩:=x;exact nF (id q) λ_ _ D _=>⟨u,a,E,e.new a _ D z,q.at_ e.le λC F=>k.free a C F z⟩
 |md t ks M=>obtain⟨u,a,E,z,q⟩:=x;obtain⟨_,o,D,_⟩:=id q;exact⟨u,a,E,e.new a _ D z,q.at_ e.le λC F=>k.free a C F z⟩
theorem mJ.at_ (x:mJ O W h n a o) (q:W.Le Y) (k:∀J,h.get? a=some J->h'.get? a=some J):mJ O Y h' n a o:=by
 induction o with
 |list l=>exact ey.at_ (rv:=.ml none l) x q k
 |dict ks Q=>obtain⟨L,o,E,F,P,D,z,u,I,H,N,X,V,U⟩:=x;exact⟨L,o,E,F,P,D,k _ z,u,I,H,λx M=>⟨(N x M).1.mono q,(N x M).2⟩,X,V,U.mono q⟩
 |inst c=>exact Zo x λC d S D z u=>⟨C,d,S,D,q.gl _ _ z,k _ u⟩
 |iK L Q=>exact Zp x λE F D z u H I=>⟨E,F,k _ D,z,u,H,I.mono q⟩
theorem Rel.grow (x:Rel E locs W r g h) (k:gI h I):Rel E locs W r g I where
 sz a t e:=by obtain⟨o,H⟩:=x.sz a t e;exact⟨o,k.keep _ _ H⟩
 fz a o e:=k.keep _ _<|x.fz a o e
 base:=x.base
 gl:=⟨x.gl.len,λn o e=>by exact eV (x.gl.at_ n o e) λa u D C=>⟨a,u,D,C.at_ .rfl λL J=>k.keep _ _ J⟩⟩
 len:=x.len
 lo i q e:=(x.lo i q e).keep (dN.kT k) .rfl
 ap:=x.ap
 sl i F e:=by exact ju (x.sl i F e) λq v u D C=>⟨q,v,u,D.keep (x.lo i q u)<|dN.kT k,C.at_ .rfl λa o z e=>⟨z,k.keep _ _ e⟩⟩
theorem Rel.fresh (x:Rel N locs W r g h) (M:W.O a=none) (J:h.get? a=some o):Rel N locs (W.tag a<|some<|.fz o) r g h:=by
 have I:W.Le (W.tag a<|some<|.fz o):=.tag λD e=>by replace e:=M▸e;exact nE e
 have u:∀b t,W.O b=some t->(W.tag a<|some<|.fz o).O b=some t:=λb t e=>(Gh.ag _ _ (by rintro rfl;replace e:=M▸e;exact nE e)).trans e
 refine⟨λb t e=>?_,λb D e=>?_,λb D e=>u b _<|x.base b D e,⟨x.gl.len,λn P e=>?_⟩,x.len,λi C e=>?_,x.ap,λi O e=>?_⟩
 .by_cases q:b=a
  .subst q;exact⟨_,J⟩
  .rw[Gh.ag _ _ q]at e;exact x.sz b t e
 .by_cases q:b=a
  .subst q;rw[Gh.aG]at e;cases e;exact J
  .rw[Gh.ag _ _ q]at e;exact x.fz b D e
 .exact eV (x.gl.at_ n P e) λb H F E=>⟨b,H,u b _ F,E.at_ I λ_ e=>e⟩
 .have:=x.lo i C e;induction C with
  |d L y=>exact⟨u _ _ this.1,this.2⟩
  |c b=>exact⟨u _ _ this.1,this.2⟩
 .exact ju (x.sl i O e) λC v H F E=>⟨C,v,H,F,E.at_ I λb o z e=>⟨u b _ z,e⟩⟩
theorem Ext.fresh (C:W.O a=none) (F:h.get? a=none) (E:∀j,t≠some (.le j):=by intro j q;cases q):Ext h W (W.tag a t):=by
 have u:∀b z,W.O b=some z->(W.tag a t).O b=some z:=λb z e=>(Gh.ag _ _ (by rintro rfl;replace e:=C▸e;exact nE e)).trans e
 refine⟨.tag λo e=>by(replace e:=C▸e;exact nE e),λb o D e=>?_,λb e=>u b _ e,λb i e=>u b _ e,λb i e=>u b _ e,λb i e=>⟨_,u b _ e,by intro j q;cases q⟩,λb i e=>.inl<|u b _ e,λb i e=>?_⟩
 .exact(Gh.ag _ _ (by rintro rfl;rw[F]at D;exact nE D)).trans e
 .by_cases q:b=a
  .subst q;rw[Gh.aG]at e;exact absurd e<|E i
  .rw[Gh.ag _ _ q]at e;exact e
theorem Rel.bA (x:Rel z locs W r g h) (u:h.get? a=none):W.O a=none:=by
 induction e:W.O a with
 |none=>rfl
 |some t=>obtain⟨o,q⟩:=x.sz a t e;replace q:=u▸q;exact nE q
theorem gI.bA (k:gI h q):h.get? q.objs.size=none:=by
 induction e:h.get? q.objs.size with
 |none=>rfl
 |some o=>exact absurd (gQ<|k.keep _ _ e)<|Ul _
end
end Mine.Internal
end
section
open PySem PySem.Calls PyProof.Rows PySem.W
namespace Mine.Internal
noncomputable def constOf:Const->Option PV
 |.none=>some .none|.bool b=>some (.bool b)|.int i=>some (.int i)|.str s=>some<|.str s
 |_=>none
noncomputable def Bi.nm:Bi->Str
 |.len=>"len"|.range=>"range"|.sorted=>"sorted"|.tuple=>"tuple"|.all=>"all"|.any=>"any"|.max=>"max"
noncomputable def Bm.nm:Bm->Str
 |.append=>"append"|.extend=>"extend"|.pop=>"pop"|.reverse=>"reverse"|.index=>"index"|.get=>"get"
structure Vw where
 tag:Nat
 e1:jp
 e2:jp
 e3:jp
 es:List jp
 os:List (Option jp)
 o1:Option jp
 o2:Option jp
 o3:Option jp
 Nn:List Keyword
 ops:List Gd
 nm:Str
 c:Const
 Y8:BoolOp
 Vd:UnaryOp
 op:fX
 gs:List NE
 sc:ng
 k:Nat
 p:Pos
noncomputable def e0:jp:=.Tuple [] 0 default
def vg:Vw:=⟨0,e0,e0,e0,[],[],none,none,none,[],[],⟨#[]⟩,.none,.And,.Not,.Add,[],default,0,default⟩
def view:jp->Vw
 |.BoolOp op a p=>{vg with tag:=1,Y8:=op,es:=a,p:=p}
 |.UnaryOp op x p=>{vg with tag:=2,Vd:=op,e1:=x,p:=p}
 |.BinOp l op r p=>{vg with tag:=3,e1:=l,op:=op,e2:=r,p:=p}
 |.Compare l ops b p=>{vg with tag:=4,e1:=l,ops:=ops,es:=b,p:=p}
 |.IfExp t l r p=>{vg with tag:=5,e1:=t,e2:=l,e3:=r,p:=p}
 |.Call f d Nn p=>{vg with tag:=6,e1:=f,es:=d,Nn:=Nn,p:=p}
 |.Constant c k p=>{vg with tag:=7,c:=c,k:=k,p:=p}
 |.Attribute e x p=>{vg with tag:=8,e1:=e,nm:=x,p:=p}
 |.Subscript e s p=>{vg with tag:=9,e1:=e,e2:=s,p:=p}
 |.Name x p=>{vg with tag:=10,nm:=x,p:=p}
 |.List es p=>{vg with tag:=11,es:=es,p:=p}
 |.Tuple es k p=>{vg with tag:=12,es:=es,k:=k,p:=p}
 |.Slice l u s p=>{vg with tag:=13,o1:=l,o2:=u,o3:=s,p:=p}
 |.Dict ks a p=>{vg with tag:=14,os:=ks,es:=a,p:=p}
 |.ListComp e gs sc p=>{vg with tag:=15,e1:=e,gs:=gs,sc:=sc,p:=p}
 |.Set _ _ _=>{vg with tag:=16}
 |.Starred _ _=>{vg with tag:=17}
 |.SetComp ..=>{vg with tag:=18}
 |.DictComp ..=>{vg with tag:=19}
 |_=>vg
noncomputable def sM(a:jp)(v:Vw):List Prop:=[True,a=.BoolOp v.Y8 v.es v.p,a=.UnaryOp v.Vd v.e1 v.p,a=.BinOp v.e1 v.op v.e2 v.p,a=.Compare v.e1 v.ops v.es v.p,a=.IfExp v.e1 v.e2 v.e3 v.p,a=.Call v.e1 v.es v.Nn v.p,a=.Constant v.c v.k v.p,a=.Attribute v.e1 v.nm v.p,a=.Subscript v.e1 v.e2 v.p,a=.Name v.nm v.p,a=.List v.es v.p,a=.Tuple v.es v.k v.p,a=.Slice v.o1 v.o2 v.o3 v.p,a=.Dict v.os v.es v.p,a=.ListComp v.e1 v.gs v.sc v.p]
theorem Lm(a):((sM a<|view a)[(view a).tag]?).getD True:=by cases a<;>first|exact rfl|trivial
theorem Ll(n)(h:(view a).tag=n):((sM a<|view a)[n]?).getD True:=h▸Lm a
def tC(e:jp):Bool:=!co (view e).tag 13
def notStar(e:jp):Bool:=!co (view e).tag 17
def gB(e:jp):Bool:=!co (view e).tag 6
def eS(e:jp):Bool:=!co (view e).tag 16
structure iy where
 sc:List (Str×eh)
 nm:List (Str×Nat)
 ns:Nat
noncomputable def iy.glob (S:iy) (x:Str):Bool:=decide (S.sc.lookup x=some .globalImplicit)&& !(x==("__debug__":Str))&&decide (S.nm.lookup x=none)
noncomputable def iy.loc (S:iy) (x:Str) (i:Nat):Bool:=decide (S.nm.lookup x=some i)&& !(x==("__debug__":Str))&& !(x==("__classdict__":Str))
noncomputable def cJ(f:jp->Ex->Bool)(l:List jp)(m:List Ex):Bool:=match l with
 |[]=>m.isEmpty
 |a::l=>(match m with|b::m=>f a b&&cJ f l m|[]=>false)
noncomputable def BZ(f:jp->Ex->Bool)(a:Option jp)(b:Option Ex):Bool:=match a with
 |none=>b.isNone
 |some a=>(match b with|some b=>f a b|none=>false)
def nameOf(e:jp):Option Str:=if co (view e).tag 10 then some (view e).nm else none
noncomputable def namesOf:List jp->Option (List Str)
 |[]=>some []
 |e::a=>(nameOf e).bind λx=>(namesOf a).map (x::·)
def LJ(e:jp):Option (List Str):=if co (view e).tag 12 then namesOf (view e).es else(nameOf e).map ([·])
def iy.xZ (S:iy) (x:Str) (i:Nat):Bool:=S.loc x i&&decide (S.sc.lookup x≠some .free)
noncomputable def nM(S:iy)(b:List jp)(a:List Nat):Bool:=match b with
 |[]=>a.isEmpty
 |e::b=>(match a with|i::a=>co (view e).tag 10&&(S.xZ (view e).nm i&&nM S b a)|[]=>false)
def rg(S:iy)(t:jp)(u:Tg):Bool:=match u with
 |.v i=>co (view t).tag 10&&S.xZ (view t).nm i
 |.ns a=>co (view t).tag 12&&(nM S (view t).es a&&decide a.Nodup)
noncomputable def BX(S:iy):List (NE×(Tg×Ex×List Ex))->List (Str×Nat)
 |[]=>[]
 |(g,(t,_,_))::r=>(((LJ g.target).getD []).zip<|kH t)++BX S r
noncomputable def xq(S:iy)(l:List (Str×eh)):List (Str×Nat):=l.filterMap λp=>if p.2=.free then(S.nm.lookup p.1).map (p.1,·)else none
noncomputable def XO(r:iy->jp->Ex->Bool)(S e:iy)(a:List NE)(c:List (Tg×Ex×List Ex)):Bool:=match a with
 |[]=>false
 |g::d=>(match c with|[]=>false|x::b=>r S g.iter x.2.1&&(d.zip b).all (λp=>r e p.1.iter p.2.2.1))
noncomputable def QB(S:iy)(b:List (Str×Nat))(a:ng):Bool:=
 decide (a.kind=.function)&&(decide ((a.names.map (·.1)).Nodup)&&(a.names.all (λy=>decide (y.2≠.cell))&&
 b.all (λy=>decide (a.names.lookup y.1=some .local)&&(decide (y.2<S.ns)&&S.nm.all (λz=>decide (z.2≠y.2))))))
noncomputable def QA(S:iy)(b:List (Str×Nat))(a:ng):Bool:=
 decide ((b.map (·.1)).Nodup)&&(decide ((b.map (·.2)).Nodup)&&(decide (b≠[])&&
 a.names.all (λy=>decide (y.2≠.free)||((S.nm.lookup y.1).isSome&&(decide (S.sc.lookup y.1=some .cell)||decide (S.sc.lookup y.1=some .free))))))
def Qz(r:iy->jp->Ex->Bool)(S c:iy)(d:List (Str×Nat))(f:Ex)(b:List (Tg×Ex×List Ex))(e:jp)(a:List NE):Bool:=
 decide (a.length=b.length)&&(decide (d.map (·.2)=b.flatMap λg=>kH g.1)&&(r c e f&&((a.zip b).all (λp=>rg c p.1.target p.2.1&&cJ (r c) p.1.ifs p.2.2.2)&&
 (a.all (λg=>g.is_async==0&&eS g.iter)&&XO r S c a b))))
def XN(r:iy->jp->Ex->Bool)(S g:iy)(b:List (Str×Nat))(d:Ex)(f:List (Tg×Ex×List Ex))(e:jp)(c:List NE)(a:ng):Bool:=QB S b a&&(QA S b a&&Qz r S g b d f e c)
def JS(r:iy->jp->Ex->Bool)(S:iy)(d:Ex)(c:List (Tg×Ex×List Ex))(e:jp)(b:List NE)(a:ng):Bool:=XN r S ⟨a.names,BX S (b.zip c)++xq S a.names,S.ns⟩ (BX S<|b.zip c) d c e b a
def Qy(T:mD)(r:iy->jp->Ex->Bool)(S:iy)(b:Ex)(a:jp):Bool:=match b with
 |.bad=>true
 |.prom e=>r S a e
 |.c v=>(co (view a).tag 7&&(constOf (view a).c).any (PV.beq v))||(co (view a).tag 10&&(S.glob (view a).nm&&(T.GT.lookup (view a).nm).any (PV.beq v)))
 |.v i=>co (view a).tag 10&&S.loc (view a).nm i
 |.and d=>co (view a).tag 1&&(decide ((view a).Y8=.And)&&cJ (r S) (view a).es d)
 |.or d=>co (view a).tag 1&&(decide ((view a).Y8=.Or)&&cJ (r S) (view a).es d)
 |.not e=>co (view a).tag 2&&(decide ((view a).Vd=.Not)&&r S (view a).e1 e)
 |.neg e=>co (view a).tag 2&&(decide ((view a).Vd=.USub)&&r S (view a).e1 e)
 |.bin op x y=>co (view a).tag 3&&(decide ((view a).op=op)&&(r S (view a).e1 x&&r S (view a).e2 y))
 |.cmp op x y=>co (view a).tag 4&&(decide ((view a).ops=[op])&&(oneOf (view a).es).any (λq=>eS q&&(r S (view a).e1 x&&r S q y)))
 |.ite c x y=>co (view a).tag 5&&(r S (view a).e1 c&&(r S (view a).e2 x&&r S (view a).e3 y))
 |.call j f=>co (view a).tag 6&&((view a).Nn.isEmpty&&((view a).es.all notStar&&(decide ((view a).es.length<20)&&(cJ (r S) (view a).es f&&(co (view (view a).e1).tag 10&& (S.glob (view (view a).e1).nm&&((T.FT[j]?).any (λn=>decide (n.name=(view (view a).e1).nm))&&T.NG j)))))))
 |.new t f=>co (view a).tag 6&&((view a).Nn.isEmpty&&((view a).es.all notStar&&(decide ((view a).es.length<20)&&(cJ (r S) (view a).es f&&(co (view (view a).e1).tag 10&& (S.glob (view (view a).e1).nm&&(T.CT[t]?).any (λs=>decide (s.name=(view (view a).e1).nm))))))))
 |.bi b e=>co (view a).tag 6&&((view a).Nn.isEmpty&&(co (view (view a).e1).tag 10&&(S.glob (view (view a).e1).nm&&(decide (b.nm=(view (view a).e1).nm)&&(oneOf (view a).es).any (λq=>notStar q&&r S q e)))))
 |.bm b o f=>co (view a).tag 6&&((view a).Nn.isEmpty&&((view a).es.all notStar&&(decide ((view a).es.length<20)&&(cJ (r S) (view a).es f&&(co (view (view a).e1).tag 8&& (decide (b.nm=(view (view a).e1).nm)&&(gB (view (view a).e1).e1&&(((view (view a).e1).p.endLine==(view a).p.line)&&r S (view (view a).e1).e1 o))))))))
 |.nh o g f=>co (view a).tag 6&&((view a).Nn.isEmpty&&((view a).es.all notStar&&(decide ((view a).es.length<20)&&(cJ (r S) (view a).es f&&(co (view (view a).e1).tag 8&& (decide (g=(view (view a).e1).nm)&&(gB (view (view a).e1).e1&&(((view (view a).e1).p.endLine==(view a).p.line)&&r S (view (view a).e1).e1 o))))))))
 |.dw o g=>co (view a).tag 8&&(decide (g=(view a).nm)&&(T.AN.contains (view a).nm&&(gB (view a).e1&&r S (view a).e1 o)))
 |.sub o i=>co (view a).tag 9&&(r S (view a).e1 o&&r S (view a).e2 i)
 |.sl o lo l=>co (view a).tag 9&&(r S (view a).e1 o&&(co (view (view a).e2).tag 13&&((view (view a).e2).o3.isNone&&(BZ (r S) (view (view a).e2).o1 lo&&BZ (r S) (view (view a).e2).o2 l))))
 |.tup d=>co (view a).tag 12&&((view a).es.all notStar&&cJ (r S) (view a).es d)
 |.lst d=>co (view a).tag 11&&((view a).es.all notStar&&cJ (r S) (view a).es d)
 |.vP ks k=>co (view a).tag 14&&((view a).os.all (·.isSome)&&(cJ (r S) ((view a).os.filterMap id) ks&&(cJ (r S) (view a).es k&&decide ((view a).os.length=(view a).es.length))))
 |.comp h m=>co (view a).tag 15&&JS r S h m (view a).e1 (view a).gs (view a).sc
noncomputable def aw(T:mD):Nat->iy->jp->Ex->Bool
 |0,_,_,_=>false
 |n+1,S,a,b=>Qy T (aw T n) S b a
inductive hY(T:mD)(r:iy->jp->Ex->Bool)(S:iy):jp->Ex->Prop
 |bad {a:jp}:hY T r S a .bad
 |prom {a:jp} {e:Ex} (h:r S a e=true):hY T r S a (.prom e)
 |c0 {c:Const} {k:Nat} {p:Pos} {v:PV} (h:(constOf c).any (PV.beq v)=true):hY T r S (.Constant c k p) (.c v)
 |c1 {x:Str} {p:Pos} {v:PV} (h:S.glob x=true) (h2:(T.GT.lookup x).any (PV.beq v)=true):hY T r S (.Name x p) (.c v)
 |v {x:Str} {p:Pos} {i:Nat} (h:S.loc x i=true):hY T r S (.Name x p) (.v i)
 |and {vs:List jp} {p:Pos} {es:List Ex} (h:cJ (r S) vs es=true):hY T r S (.BoolOp .And vs p) (.and es)
 |or {vs:List jp} {p:Pos} {es:List Ex} (h:cJ (r S) vs es=true):hY T r S (.BoolOp .Or vs p) (.or es)
 |not {x:jp} {p:Pos} {e:Ex} (h:r S x e=true):hY T r S (.UnaryOp .Not x p) (.not e)
 |neg {x:jp} {p:Pos} {e:Ex} (h:r S x e=true):hY T r S (.UnaryOp .USub x p) (.neg e)
 |bin {l q:jp} {p:Pos} {op:fX} {x y:Ex} (h:r S l x=true) (h2:r S q y=true):hY T r S (.BinOp l op q p) (.bin op x y)
 |cmp {l q:jp} {p:Pos} {op:Gd} {x y:Ex} (H:eS q=true) (h:r S l x=true) (h2:r S q y=true):hY T r S (.Compare l [op] [q] p) (.cmp op x y)
 |ite {t l q:jp} {p:Pos} {c x y:Ex} (H:r S t c=true) (h:r S l x=true) (h2:r S q y=true):hY T r S (.IfExp t l q p) (.ite c x y)
 |call {x:Str} {m p:Pos} {d:List jp} {fi:Nat} {as:List Ex} {fd:cx} (z:d.all notStar=true) (A:d.length<20) (h:cJ (r S) d as=true) (E:S.glob x=true) (N:T.FT[fi]?=some fd) (C:fd.name=x) (D:T.NG fi=true):hY T r S (.Call (.Name x m) d [] p) (.call fi as)
 |new {x:Str} {m p:Pos} {d:List jp} {L:Nat} {as:List Ex} {J:QJ} (z:d.all notStar=true) (A:d.length<20) (h:cJ (r S) d as=true) (E:S.glob x=true) (N:T.CT[L]?=some J) (C:J.name=x):hY T r S (.Call (.Name x m) d [] p) (.new L as)
 |bi {x:Str} {m p:Pos} {a:jp} {b:Bi} {e:Ex} (z:notStar a=true) (h:r S a e=true) (E:S.glob x=true) (C:b.nm=x):hY T r S (.Call (.Name x m) [a] [] p) (.bi b e)
 |bm {x:Str} {m p:Pos} {e:jp} {d:List jp} {b:Bm} {o:Ex} {as:List Ex} (z:d.all notStar=true) (A:d.length<20) (h:cJ (r S) d as=true) (C:b.nm=x) (F:gB e=true) (M:(m.endLine==p.line)=true) (h2:r S e o=true):hY T r S (.Call (.Attribute e x m) d [] p) (.bm b o as)
 |nh {x:Str} {m p:Pos} {e:jp} {d:List jp} {o:Ex} {as:List Ex} (z:d.all notStar=true) (A:d.length<20) (h:cJ (r S) d as=true) (F:gB e=true) (M:(m.endLine==p.line)=true) (h2:r S e o=true):hY T r S (.Call (.Attribute e x m) d [] p) (.nh o x as)
 |dw {x:Str} {p:Pos} {e:jp} {o:Ex} (O:T.AN.contains x=true) (F:gB e=true) (h:r S e o=true):hY T r S (.Attribute e x p) (.dw o x)
 |sub {e s:jp} {p:Pos} {o i:Ex} (h:r S e o=true) (h2:r S s i=true):hY T r S (.Subscript e s p) (.sub o i)
 |sl {e:jp} {l u:Option jp} {m p:Pos} {o:Ex} {lo D:Option Ex} (h:r S e o=true) (h2:BZ (r S) l lo=true) (P:BZ (r S) u D=true):hY T r S (.Subscript e (.Slice l u none m) p) (.sl o lo D)
 |tup {f:List jp} {k:Nat} {p:Pos} {es:List Ex} (z:f.all notStar=true) (h:cJ (r S) f es=true):hY T r S (.Tuple f k p) (.tup es)
 |lst {f:List jp} {p:Pos} {es:List Ex} (z:f.all notStar=true) (h:cJ (r S) f es=true):hY T r S (.List f p) (.lst es)
 |vP {j:List (Option jp)} {g:List jp} {p:Pos} {ks vs:List Ex} (H:j.all (·.isSome)=true) (h:cJ (r S) (j.filterMap id) ks=true) (h2:cJ (r S) g vs=true) (A:j.length=g.length):hY T r S (.Dict j g p) (.vP ks vs)
 |comp {e:jp} {w:List NE} {n:ng} {p:Pos} {elt:Ex} {I:List (Tg×Ex×List Ex)} (h:JS r S elt I e w n=true):hY T r S (.ListComp e w n p) (.comp elt I)
theorem eE{a:Type}{l:List a}{C:Prop}(h:l.isEmpty=true)(k:l=[]->C):C:=k<|eC.mp h
theorem vT{a}{n:Nat}{C:Prop}(h:(co (view a).tag n&&b)=true)(k:((sM a<|view a)[n]?).getD True->b=true->C):C:=aE h λd c=>k (Ll n<|ii d) c
theorem D8(h:Qy T r S b a=true):hY T r S a b:=by
 cases b with
 |bad=>exact .bad
 |prom e=>exact .prom h
 |c v=>exact(FM.mp h).elim (λh=>vT h λq h=>q▸.c0 h) λh=>vT h λq h=>aE h λh d=>q▸.c1 h d
 |v i=>exact vT h λq h=>q▸.v h
 |and A=>exact vT h λq h=>aE h λh d=>q▸dT h▸.and d
 |or A=>exact vT h λq h=>aE h λh d=>q▸dT h▸.or d
 |not A=>exact vT h λq h=>aE h λh d=>q▸dT h▸.not d
 |neg A=>exact vT h λq h=>aE h λh d=>q▸dT h▸.neg d
 |bin op x y=>exact vT h λq h=>aE h λh d=>aE d λd f=>q▸dT h▸.bin d f
 |cmp=>exact vT h λq h=>aE h λh d=>oE d λx d f=>aE f λf j=>aE j λj u=>q▸dT h▸fP d▸.cmp f j u
 |ite=>exact vT h λq h=>aE h λh d=>aE d λd f=>q▸.ite h d f
 |call=>exact vT h λq h=>aE h λk h=>aE h λn h=>aE h λo h=>aE h λs h=>vT h λg h=>aE h λt h=>aE h λp C=>oE p λD p m=>eE k λl=>q▸l▸g▸.call n (dT o) s t p (dT m) (C)
 |new=>exact vT h λq h=>aE h λk h=>aE h λn h=>aE h λo h=>aE h λs h=>vT h λg h=>aE h λt p=>oE p λD p m=>eE k λl=>q▸l▸g▸.new n (dT o) s t p (dT m)
 |bi=>exact vT h λq h=>aE h λk h=>vT h λg h=>aE h λt h=>aE h λm h=>oE h λx d h=>aE h λf j=>eE k λl=>q▸l▸g▸fP d▸.bi f j t (dT m)
 |bm=>exact vT h λq h=>aE h λk h=>aE h λn h=>aE h λo h=>aE h λs h=>vT h λg h=>aE h λm h=>aE h λu h=>aE h λz w=>eE k λl=>q▸l▸g▸.bm n (dT o) s (dT m) u z w
 |nh=>exact vT h λq h=>aE h λk h=>aE h λn h=>aE h λo h=>aE h λs h=>vT h λg h=>aE h λm h=>aE h λu h=>aE h λz w=>eE k λl=>q▸l▸g▸dT m▸.nh n (dT o) s u z w
 |dw=>exact vT h λq h=>aE h λh d=>aE d λd f=>aE f λf j=>q▸dT h▸.dw (dT h▸d) f j
 |sub=>exact vT h λq h=>aE h λh d=>q▸.sub h d
 |sl=>exact vT h λq h=>aE h λk h=>vT h λg h=>aE h λd h=>aE h λf j=>q▸g▸cq.mp d▸.sl k f j
 |tup=>exact vT h λq h=>aE h λh d=>q▸.tup h d
 |lst=>exact vT h λq h=>aE h λh d=>q▸.lst h d
 |vP=>exact vT h λq h=>aE h λh d=>aE d λd f=>aE f λf j=>q▸.vP h d f (dT j)
 |comp=>exact vT h λq h=>q▸.comp h
def uC(b:Env)(x:Str):Loc->Prop
 |.d L y=>b.kindOf x=some .local/\L=b.locals/\y=x
 |.c a=>(b.kindOf x=some .cell\/b.kindOf x=some .free)/\b.cells.lookup x=some a
structure ay(S:iy)(env:Env)(locs:List (Option Loc)):Prop where
 kind:env.scope.kind=.function
 glb:env.globals=mainGlobals
 blt:env.builtins=builtinsNs
 loc:∀(x:Str)(i:Nat),S.nm.lookup x=some i->∃loc,locs[i]?=some (some loc)/\uC env x loc
 gl:∀x:Str,S.sc.lookup x=some .globalImplicit->S.nm.lookup x=none->env.kindOf x=some .globalImplicit
 nfr:∀x:Str,S.sc.lookup x≠some .free->env.kindOf x≠some .free
 cel:∀x:Str,(S.sc.lookup x=some .cell\/S.sc.lookup x=some .free)->(env.kindOf x=some .cell\/env.kindOf x=some .free)
 len:S.ns<=locs.length
structure fq(A:dA)(n:Nat):Prop where
 hd:A.handled=none
 dp:A.depth+n<recursionLimit
 un:A.units+8*n+200<cLine
noncomputable def vI(b:Heap):Gh:=⟨λa=>(b.get? a).map .fz,[]⟩
noncomputable def gj:RV->Bool
 |.v _=>false|_=>true
noncomputable def pU:Bi->Value
 |.len=>.builtin "len"|.range=>.type "range"|.sorted=>.builtin "sorted"|.tuple=>.type "tuple"|.all=>.builtin "all"|.any=>.builtin "any"|.max=>.builtin "max"
section
variable(Z:Cx)
structure Kn(C:Addr):Prop where
 cd:∃cd,clsIn Z.K C=some cd/\cd.hasDict=true
 ga:findIn Z.K (.ref C) "__getattribute__"=some (some<|.builtin "object.__getattribute__")
 nga:findIn Z.K (.ref C) "__getattr__"=some none
 sa:findIn Z.K (.ref C) "__setattr__"=some (some<|.builtin "object.__setattr__")
 po:plainOver Z.K C=true
 made:makesIn Z.K C=true
 no:∀x∈Z.T.AN,findIn Z.K (.ref C) x=some none/\takerIn Z.K C x=some none/\copiedNames.contains x=false
structure lu:Prop where
 lim:Z.dD.NoLimit
 NO:Z.dD.Ns mainGlobals Z.mg
 YV:Z.dD.Ns builtinsNs Z.mb
 gt:∀(x:Str)(v:PV),Z.T.GT.lookup x=some v->∃y,Z.mg x=some y/\aA Z (vI Z.dD) v y
 bi:∀b:Bi,Z.mg b.nm=none/\Z.mb b.nm=some (pU b)
 YQ:Z.K.In Z.dD
 Zy:∃o,Z.dD.get? sysModules=some o
 cls:∀(c:Nat)(C:Addr),Z.CA[c]?=some C->Kn Z C
structure eM(locs:List (Option Loc))(s:Shared)(W:Gh)(st':St)(s':Shared)(W':Gh):Prop where
 same:∃h' tk',s'={s with heap:=h',toks:=tk'}
 ext:Ext s.heap W W'
 keep:dN W s.heap s'.heap
 rel:Rel Z locs W' st'.r st'.g s'.heap
inductive EP(locs:List (Option Loc))(s:Shared)(W:Gh)(st':St)(c:RV)(v:Value)(b:Shared):Prop
 |mk (d:Gh) (x:eM Z locs s W st' b d) (t:ky Z d b.heap c v) (f:gj c=true->∀a,v=.ref a->s.heap.get? a=none):EP locs s W st' c v b
inductive BP(locs:List (Option Loc))(s:Shared)(W:Gh)(st':St)(b:Bool)(v:Bool)(a:Shared):Prop
 |mk (e:v=b) (c:Gh) (x:eM Z locs s W st' a c):BP locs s W st' b v a
abbrev No:Value->Shared->Prop:=λ_ _=>False
structure qh(f:iU)(n:Nat):Prop where
 e:∀{k:Nat}{S:iy}{pe:jp}{e:Ex}{env:Env}{locs:List (Option Loc)}{A:dA}{W:Gh}{st st':St}{s:Shared}{rv:RV},aw Z.T k S pe e=true->ay S env locs->fq A n->Rel Z locs W st.r st.g s.heap->f.e e st=some (rv,st')->wpAny (model Z.prog Z.w) A (eval pe env) (EP Z locs s W st' rv) No s
 b:∀{k:Nat}{S:iy}{pe:jp}{e:Ex}{env:Env}{locs:List (Option Loc)}{A:dA}{W:Gh}{st st':St}{s:Shared}{b:Bool},aw Z.T k S pe e=true->ay S env locs->fq A n->Rel Z locs W st.r st.g s.heap->f.b e st=some (b,st')->wpAny (model Z.prog Z.w) A (isTrue pe env<|eval pe env) (BP Z locs s W st' b) No s
end
section
variable{Z:Cx} {locs:List (Option Loc)} {st:St} {s:Shared}
theorem fq.mono (b:fq A n) (h:m<=n):fq A m:=⟨b.hd,by have:=b.dp;omega,by have:=b.un;omega⟩
theorem fq.line (b:fq A n):A.units+200<cLine:=ac (lf (pp _ _) _) b.un
theorem fq.Wu (b:fq A n):A.units+65<cLine:=ac (db (ut ..) _) b.line
theorem EP.on (h:wpAny (model Z.prog Z.w) A t (EP Z locs s W st' F) No u) (k:∀v C D,eM Z locs s W st' C D->ky Z D C.heap F v->(gj F=true->∀a,v=.ref a->s.heap.get? a=none)->Q v C):wpAny (model Z.prog Z.w) A t Q E u:=o0 h (λv C q=>by induction q with|mk D x t f=>exact k v C D x t f) λ_ _ z=>z.elim
theorem BP.on (h:wpAny (model Z.prog Z.w) A u (BP Z locs s W st' b) No C) (k:∀D F,eM Z locs s W st' D F->B b D):wpAny (model Z.prog Z.w) A u B E C:=o0 h (λv D q=>by induction q with|mk e F x=>exact e▸k D F x) λ_ _ z=>z.elim
theorem eM.trans (x:eM Z locs s W C s' H) (y:eM Z locs s' H st'' q u):eM Z locs s W st'' q u:=by refine jF x.same λJ I F=>?_;exact jF y.same λD z E=>⟨⟨D,z,by rw[E,F]⟩,x.ext.trans y.ext x.keep,x.keep.trans y.keep x.ext,y.rel⟩
theorem eM.grow (x:Rel Z locs W st.r st.g s.heap) (g:gI s.heap q):eM Z locs s W st {s with heap:=q,toks:=tk} W:=⟨⟨_,_,rfl⟩,.rfl,.kT g,x.grow g⟩
theorem eM.n8 (x:Rel Z locs W st.r st.g s.heap):eM Z locs s W st s W:=⟨⟨s.heap,s.toks,rfl⟩,.rfl,.rfl,x⟩
theorem eM.tok (x:eM Z locs s W q u D):eM Z locs s W q {u with toks:=tk} D:=by exact jF x.same λz E C=>⟨⟨z,tk,by rw[C]⟩,x.ext,x.keep,x.rel⟩
theorem Jh(x:Rel Z locs W st.r st.g s.heap):(vI Z.dD).Le W:=by exact⟨λa _ e=>mE (o:=Z.dD.get? a) (f:=cL.fz) e λ_ q e=>(x.base a _ q).trans<|congrArg some e,λn a e=>nE e⟩
theorem ec(x:Rel Z locs W st.r st.g s.heap):∀(b)(o),Z.dD.get? b=some o->s.heap.get? b=some o:=λb o e=>x.fz b o<|x.base b o e
theorem yK{i:Nat}(j:ay S f locs)(l:uC f x b)(g:bP s.heap b v)(k:(x==("__classdict__":Str))=false) (h:Q v s):wpAny (model Z.prog Z.w) A (loadName f x) Q E s:=by
 induction b with
 |d L y=>obtain⟨hk,rfl,rfl⟩:=l;exact aO g λm o e=>wpAny_loadName_local j.kind hk o e h
 |c a=>
  obtain⟨hk,n⟩:=l;rcases hk with hk|hk
  .exact wpAny_loadName_cell j.kind hk n g h
  .exact wpAny_loadName_free j.kind hk n g h k
theorem Hp(j:ay S a locs)(g:uC a x b)(f:bP s.heap b v)(d:(x==("__classdict__":Str))=false) (c:(x==("__debug__":Str))=false) (h:Q v s):wpAny (model Z.prog Z.w) A (eval (.Name x e) a) Q E s:=QK (yK (i:=0) j g f d h) c
theorem Rel.freeze (x:Rel Z locs W st.r st.g s.heap) (U:H=.mu i\/H=.le i) (Q:W.O a=some H) (S:s.heap.get? a=some o)(c:locs[i]?=some (some F)) (X:bP s.heap F v) (Y:aA Z (W.tag a<|some<|.fz o) p v):Rel Z locs (W.tag a<|some<|.fz o) (st.put i<|some<|.v p).r (st.put i<|some<|.v p).g s.heap:=by
 have I:∀{t:cL},(∀j,t≠.mu j)->(∀j,t≠.le j)->t≠H:=λL J q=>U.elim (λh=>L i<|q.trans h) λh=>J i<|q.trans h
 have u:∀{b:Addr}{t:cL},W.O b=some t->t≠H->(W.tag a<|some<|.fz o).O b=some t:=λ{b t} e q=>(Gh.ag _ _ λz=>q<|sJ<|e.symm.trans<|(congrArg W.O z).trans Q).trans e
 have P:W.Le (W.tag a<|some<|.fz o):=.tag λE e=>absurd (sJ<|e.symm.trans Q)<|I nofun nofun
 refine⟨λb t e=>?_,λb E e=>?_,λb E e=>u (x.base b E e)<|I nofun nofun,⟨x.gl.len,λn go e=>eV (x.gl.at_ n go e) λb O N M=>⟨b,O,u N<|I nofun nofun,M.at_ P λ_ e=>e⟩⟩,x.len.trans aU.symm,λj C e=>(x.lo j C e).re λz L J=>u z<|I L J,x.ap,λj D e=>?_⟩
 .by_cases q:b=a
  .exact q▸⟨_,S⟩
  .exact x.sz b t<|(Gh.ag _ _ q).symm.trans e
 .by_cases q:b=a
  .subst q;exact cL.fz.inj (sJ<|(Gh.aG ..).symm.trans e)▸S
  .exact x.fz b E<|(Gh.ag _ _ q).symm.trans e
 .by_cases q:i=j
  .subst q;exact sJ (sJ<|(T0<|aU▸(ty.mp e).1).symm.trans e)▸⟨F,v,c,X,Y⟩
  .exact ju (x.sl j D<|(aP q).symm.trans e) λC V O N M=>⟨C,V,O,N,M.at_ P λb E z e=>⟨u z λz=>q<|Px U<|z▸dY j D,e⟩⟩
theorem Ext.freeze (L:D=.mu i\/D=.le i) (H:W.O a=some D):Ext h W (W.tag a<|some<|.fz o):=by
 have E:∀{t:cL},(∀j,t≠.mu j)->(∀j,t≠.le j)->t≠D:=λJ I q=>L.elim (λh=>J i<|q.trans h) λh=>I i<|q.trans h
 have u:∀{b:Addr}{t:cL},W.O b=some t->t≠D->(W.tag a<|some<|.fz o).O b=some t:=λ{b t} e q=>(Gh.ag _ _ λz=>q<|sJ<|e.symm.trans<|(congrArg W.O z).trans H).trans e
 have C:∀{b:Addr}{t:cL},W.O b=some t->(W.tag a<|some<|.fz o).O b=some t\/∃F,(W.tag a<|some<|.fz o).O b=some (.fz F):=λ{b t} e=>by
  by_cases q:b=a
  .subst q;exact .inr ⟨_,Gh.aG ..⟩
  .exact .inl<|(Gh.ag _ _ q).trans e
 refine⟨.tag λF e=>absurd (sJ<|e.symm.trans H)<|E nofun nofun,λb F _ e=>(Gh.ag _ _ λq=>nE<|e.symm.trans<|(congrArg W.O q).trans H).trans e,λb e=>u e<|E nofun nofun,λb i e=>u e<|E nofun nofun,λb i e=>u e<|E nofun nofun,λb i e=>(C e).elim (λe=>⟨_,e,nofun⟩) λe=>e.elim λ_ e=>⟨_,e,nofun⟩,λb i e=>C e,λb i e=>?_⟩
 by_cases q:b=a
 .subst q;exact nomatch(Gh.aG ..).symm.trans e
 .exact(Gh.ag _ _ q).symm.trans e
end
end Mine.Internal
end
section
open PySem PySem.Calls PyProof.Rows PySem.W
open scoped Classical
namespace Mine.Internal
section
variable(Z:Cx)
def ez(W:Gh)(h:Heap):RV->Value->Prop
 |.v x,v=>aA Z W x v
 |x,v=>∃a,v=.ref a/\ey Z W h a x
def hX(locs:List (Option Loc))(W:Gh)(h:Heap):Op->Value->Prop
 |.rv r,v=>ky Z W h r v
 |.pl i,v=>∃a,locs[i]?=some (some a)/\bP h a v/\gn W h i a
end
section
variable{Z:Cx} {locs:List (Option Loc)} {W:Gh} {st:St} {s s':Shared} {n:Nat} {h:Heap}
theorem oG.wD (x:oG Z W h i u v):ez Z W h u v:=by
 induction u with
 |v=>exact x
 |ml=>refine eV x λa e _ q=>?_;exact⟨a,e,q⟩
 |md=>refine eV x λa e _ q=>?_;exact⟨a,e,q⟩
theorem ky.wD (x:ky Z W h u v):ez Z W h u v:=by
 induction u with
 |v=>exact x
 |ml=>obtain⟨_,a,e,_,q⟩:=x;exact⟨a,e,q⟩
 |md=>obtain⟨_,a,e,_,q⟩:=x;exact⟨a,e,q⟩
theorem bP.inj (x:bP h q u) (y:bP h q v):u=v:=by
 induction q with
 |d L z=>refine aO x λm H e=>?_;exact aO y λN D J=>bn<|e.symm.trans<|(H.eq_nsMap.trans D.eq_nsMap.symm)▸J
 |c a=>refine aO x λo F I=>?_;exact aO y λM C E=>bn<|Data.cell.inj<|I.symm.trans<|(bn<|C.symm.trans F)▸E
theorem Rel.look {r g h} (R:Rel Z locs W r g h) (F:locs[i]?=some (some u)) (q:r[i]?=some (some z)):∃v,bP h u v/\oG Z W h i z v:=ju (R.sl i z q) λ_ v E D C=>⟨v,sJ (sJ<|E.symm.trans F)▸D,C⟩
theorem Rel.Us {r g h} (R:Rel Z locs W r g h) (F:locs[i]?=some (some u)) (q:r[i]?=some (some z)) (E:bP h u v):oG Z W h i z v:=aO (R.look F q) λ_ D C=>E.inj D▸C
theorem hX.keep (x:hX Z locs W h o v) (e:Ext h W E) (k:dN W h z):hX Z locs E z o v:=by
 induction o with
 |rv r=>exact ky.keep x e k
 |pl i=>exact eV x λq D C u=>⟨q,D,C.keep u k,u.keep k e⟩
theorem get_slot{st:St}(e:st.get i=some a):st.r[i]?=some (some a):=Option.join_eq_some_iff.mp e
theorem hX.wD (x:hX Z locs W s.heap o v) (R:Rel Z locs W st.r st.g s.heap) (e:o.aD st=some rv):ez Z W s.heap rv v:=by
 induction o with
 |rv r=>exact bn e▸ky.wD x
 |pl i=>refine eV x λD F E _=>?_;exact ju (R.sl i rv<|get_slot e) λq H C z u=>bP.inj E (bn (bn<|F.symm.trans C)▸z)▸u.wD
structure iL(W:Gh)(h:Heap)(tup:Bool)(l:List PV)(v:Value)(a:Addr)(xs:Array Value)(n:Nat):Prop where
 e:v=.ref a
 ho:h.get? a=some (if tup then qy xs n else jz xs n)
 sz:xs.size<=az
 rel:ah Z W l xs.toList
theorem d6(R:Rel Z locs W r g h)(f:ez Z W h i v)(e:cA g i=some l):∃a b n,iL (Z:=Z) W h (isTup i) l v a b n:=by
 induction i with
 |v x=>
  cases x with
  |tup=>exact Et f λa b n q z d c=>⟨a,b,n,q,R.fz _ _ z,d,bn e▸c⟩
  |lst=>exact Et f λa b n q z d c=>⟨a,b,n,q,R.fz _ _ z,d,bn e▸c⟩
  |aZ k=>
   refine aO f λa m j=>?_;refine bE e λo u p=>?_;refine eV (R.gl.at_ k _<|GO.list_eq p▸u) λA y _ w=>?_
   exact ju w λb n z d c=>⟨A,b,n,j.trans<|congrArg _<|bn<|m.symm.trans y,z,d,c⟩
  |_=>exact nE e
 |ml t C=>obtain⟨a,q,b,n,z,d,c⟩:=f;exact⟨a,b,n,q,z,d,bn e▸c⟩
 |md=>exact nE e
theorem oZ(e:cA g a=some l)(t:isTup a=true):a=.v (.tup l):=by
 refine oE (o:=a.val?.bind PV.lD) (p:=λ_=>true) (by refine t.trans ?_;induction h:a.val?.bind PV.lD<;>rfl) λm h _=>?_
 have:a=.v (.tup m):=bE h λx c b=>PV.lR b▸RV.lP c;subst this;exact congrArg _<|congrArg _<|bn e
variable{v:Value} {a:Addr} {xs:Array Value}
theorem iL.tupI (x:iL (Z:=Z) W h true l v a xs m):IsTup h a xs:=⟨_,x.ho,rfl,m,rfl⟩
theorem iL.tL (x:iL (Z:=Z) W h false l v a xs m):h.IsList a xs:=⟨_,x.ho,rfl,m,rfl⟩
theorem iL.len (x:iL (Z:=Z) W h q l v a xs m):l.length=xs.size:=by have:=x.rel.length;exact this
theorem iL.fit (x:iL (Z:=Z) W h q l v a xs m):(xs.size:Int)<2^63:=by have:=x.sz;unfold az at this;omega
inductive rX(W:Gh)(h:Heap)(b:List PV)(a:Addr):RV->List PV->Prop
 |int {c:RV} {kvs:List (Int×Value)}:ji c=false->h.DictOf (intKind Z.prog Z.w) a kvs->kvs.length<=az->ah Z W b (kvs.map (·.2))->rX W h b a c (kvs.map λx=>.int x.1)
 |str {c:RV} {kvs:List (Str×Value)}:ji c=false->h.DictOf (strKind Z.prog Z.w) a kvs->kvs.length<=az->ah Z W b (kvs.map (·.2))->rX W h b a c (kvs.map λx=>.str x.1)
 |row {n:Nat} {xs:List (PV×Addr×Value)}:h.DictOfH (kR Z.prog Z.w) a xs->(∀x∈xs,aA Z W x.1 (.ref x.2.1)/\isKey 6 x.1=true)->xs.length<=az->ah Z W b (xs.map (·.2.2))->rX W h b a (.v<|.aZ n) (xs.map (·.1))
theorem P8(R:∀(a:Addr)(o:Obj),W.O a=some (.fz o)->h.get? a=some o):∀(n){x v},isKey n x=true->aA Z W x v->KR h n x v:=by
 have g:∀{n:Nat}{x:PV}{v:Value}(i:Int),x=.int i->aA Z W x v->KR h n x v:=λi e q=>by subst e;exact(show∃t,_=Ye i t from q).elim λt e=>e▸.int i t
 have ks:∀{n:Nat}{x:PV}{v:Value}(i:Str),x=.str i->i5 i=true->aA Z W x v->KR h n x v:=λi e z q=>by subst e;exact(show∃t,_=Yd i t from q).elim λt e=>e▸.str i t z
 intro n;induction n with
 |zero=>exact λe q=>qU e (λi e=>g i e q) λs e h=>ks s e h q
 |succ n p=>
  intro x v e q;refine tX e (λi e=>g i e q) (λs e h=>ks s e h q) λm l b d h=>?_;cases b;subst d;refine Et (q:∃a xs n,v=.ref a/\W.O a=some (.fz<|qy xs n)/\xs.size<=az/\ah Z W l xs.toList) λa xs m c k u f=>qE c.symm ?_
  exact .tup (R _ _ k) rfl rfl f.length λj x y b d=>(f.get b).elim λr z=>p (bv.mp h x<|bZ b) (bn (z.1.symm.trans d)▸z.2)
theorem iq(R:Rel Z locs W r g h){v}(w:ez Z W h i v)(e:uj g i=some (ks,vs)):∃a,v=.ref a/\a≠sysModules/\rX (Z:=Z) W h vs a i ks:=by
 induction i with
 |v x=>
  cases x with
  |cd N J=>exact Pz (D:=λks vs=>∃a,v=.ref a/\a≠sysModules/\rX (Z:=Z) W h vs a (.v (.cd N J)) ks) e (AG w λa o q z r0 d=>⟨a,q,r0,d.elim (λd=>Lh d λb p m l j=>p▸.int rfl (ct.mpr ⟨o,R.fz _ _ z,m⟩) l j) λd=>Lh d λb p m l j=>p▸.str rfl (ct.mpr ⟨o,R.fz _ _ z,m⟩) l j⟩)
  |aZ k=>exact aO w λa M L=>bE e λo P O=>eV (R.gl.at_ k _<|show g[k]?=some (.dict ks vs) from GO.Oe O▸P) λU T _ I=>fN I.2 λo z=>uQ z λQ S xs c=>⟨U,L.trans<|congrArg _<|bn<|M.symm.trans T,I.1,(show ks=_ from c.1)▸.row ⟨o,Q,S,c.2.1,c.2.2.1,c.2.2.2.1,c.2.2.2.2.1,λx F=>P8 R.fz 6 (c.2.2.2.2.2.1 x F).2 (c.2.2.2.2.2.1 x F).1,c.2.2.2.2.2.2.1⟩ c.2.2.2.2.2.1 c.2.2.2.2.2.2.2.1 c.2.2.2.2.2.2.2.2⟩
  |_=>exact nE e
 |ml t V=>exact nE e
 |md t u f=>exact Pz (D:=λks vs=>∃a,v=.ref a/\a≠sysModules/\rX (Z:=Z) W h vs a (.md t u f) ks) e (aO w λa q z=>⟨a,q,z.1,aO z.2 λo H d=>d.elim (λd=>Lh d λb E C A y=>E▸.int rfl (ct.mpr ⟨o,H,C⟩) A y) λd=>Lh d λb E C A y=>E▸.str rfl (ct.mpr ⟨o,H,C⟩) A y⟩)
def jm(s s':Shared):Prop:=∃t,s'={s with toks:=t}
theorem jm.iX:jm s s:=⟨s.toks,rfl⟩
theorem jm.EA (R:Rel Z locs W st.r st.g s.heap) (x:jm s s'):eM Z locs s W st s' W:=by obtain⟨t,rfl⟩:=x;exact(eM.n8 R).tok
theorem iL.truthy {l a xs n} (V:iL (Z:=Z) W s.heap (isTup C) l v a xs n):wpAny (model Z.prog Z.w) A (truthy v) (λc s'=>c=(!l.isEmpty)/\jm s s') No s:=by
 have u:(!xs.isEmpty)= !l.isEmpty:=by
  have q:=V.len;induction l with
  |nil=>rw[yk.mp q.symm];rfl
  |cons x l=>exact congrArg _ (show xs.isEmpty=false from decide_eq_false λz=>nomatch q.trans z)
 obtain rfl:=V.e;induction t:isTup C with
 |true=>rw[t]at V;exact truthy_tuple V.tupI V.fit ⟨u,_,rfl⟩
 |false=>rw[t]at V;exact wpAny_truthy_list V.tL V.fit ⟨u,_,rfl⟩
theorem lS(R:Rel Z locs W r g s.heap)(j:ez Z W s.heap rv v)(e:cF g rv=some b):wpAny (model Z.prog Z.w) A (truthy v) (λc s'=>c=b/\jm s s') No s:=by
 induction q:rv.val?.bind PV.truth? with
 |none=>rw[cF,q]at e;exact mE e λl o m=>uQ (d6 R j o) λ_ _ _ V=>m▸V.truthy
 |some c=>
  rw[cF,q]at e;obtain rfl:=bn e;refine bE q λx k d=>?_;have f:=show ez Z W s.heap (.v x) v from RV.lP k▸j;cases x with
  |none=>exact(show v=.none from f)▸bn d▸truthy_none ⟨rfl,.iX⟩
  |bool=>exact(show v=.bool _ from f)▸bn d▸T9 ⟨rfl,.iX⟩
  |int i=>obtain⟨t,rfl⟩:=(f:∃t,v=.int i t);exact bn d▸truthy_int ⟨by simp[bne,BEq.beq],.iX⟩
  |_=>exact nE d
end
end Mine.Internal
end
section
open PySem PySem.Calls PyProof.Rows PySem.W
namespace Mine.Internal
theorem mY{c d:Type}(p)(a)(b:c->d)(k)(l:List c):(∀x∈l,PV.beq (a x) k=p x)->(l.find? p).map b=(aM k<|l.map a).bind λn=>(l.map b)[n]?:=by
 induction l with
 |nil=>exact@λ_=>rfl
 |cons x l e=>
  intro h;show _=rK (if PV.beq (a x) k=true then _ else _) _
  refine(h x<|.head _)▸lO▸?_
  induction p x with
  |true=>rfl
  |false=>exact(if_neg xz)▸(e λy f=>h y<|.tail _ f).trans (by induction aM k (l.map a)<;>rfl)
theorem Jv:∀{n},aM k l=some n->n<l.length:=by
 induction l with
 |nil=>exact@λ_ e=>nE e
 |cons x l a=>
  intro n e;replace e:(if PV.beq x k=true then some 0 else(aM k l).map (· +1))=some n:=e
  induction q:PV.beq x k with
  |true=>rw[q,if_pos rfl]at e;obtain rfl:=sJ e;exact wv _
  |false=>rw[q,if_neg xz]at e;exact mE e λm c b=>b▸lC (a c)
theorem gH{b:Type}(p)(a)(k)(l:List b)(h:∀x∈l,PV.beq (a x) k=p x):(l.find? p).isSome=(aM k<|l.map a).isSome:=by
 have:=mY p a id k l h;rw[Option.map_id,List.map_id]at this;rw[show l.find? p=_ from this];induction e:aM k (l.map a)with
 |none=>rfl
 |some n=>exact congrArg _<|At<|im a▸Jv e
theorem pV(n)(h:isKey n k=true):PV.beq x k=true↔x=k:=⟨PV.beq_eq,λe=>e.symm▸PV.pV n h⟩
section
variable{locs:List (Option Loc)} {W:Gh} {h:Heap} {r:List (Option RV)} {g:List GO}
theorem kj{h n}(H:∀{x:PV}{v:Value}{d:gW},aA j W x v->f x=some d->nP h v d n){l}:∀{c i},ah j W l c->k5 f l=some i->lj h c i n:=by
 induction l with
 |nil=>
  intro b;induction b with
  |nil=>exact@λ_ _ e=>bn e▸⟨⟨_,Kr⟩,rfl,Rs _⟩
  |cons _ _=>exact@λ_ q _=>q.elim
 |cons _ _ k=>
  intro a;induction a with
  |nil=>exact@λ_ q _=>q.elim
  |cons _ _=>exact@λ_ q e=>bE e λ_ o e=>mE e λ_ m e=>e▸.cons (H q.1 o) (k q.2 m)
theorem pR(R:Rel A locs W r g h)(n):∀{x v d},aA A W x v->dat g n x=some d->nP h v d n:=by
 induction n with
 |zero=>exact@λ_ _ _ _ e=>nE e
 |succ n p=>
  intro x v d q e;cases x with
  |none=>exact(show v=.none from q)▸bn e▸⟨⟨_,.none⟩,rfl,Rs _⟩
  |bool b=>exact(show v=.bool b from q)▸bn e▸⟨⟨_,.bool _⟩,rfl,Rs _⟩
  |int i=>obtain⟨t,rfl⟩:=(q:∃t,v=.int i t);exact bn e▸⟨⟨_,.int _ _⟩,rfl,Rs _⟩
  |str s=>obtain⟨t,rfl⟩:=(q:∃t,v=.str s t);exact iE e λD e=>bn e▸⟨⟨_,.str _ _⟩,D,Rs _⟩
  |tup l=>obtain⟨a,w,m,rfl,z,_,f⟩:=q;exact mE e λy c j=>j▸(kj (p) f c).VD (R.fz _ _ z) rfl rfl
  |lst l=>obtain⟨a,w,m,rfl,z,_,f⟩:=q;exact mE e λy c j=>j▸(kj (p) f c).Rl (R.fz _ _ z) rfl rfl
  |aZ k=>
   refine bE e λl c e=>bE c λo F E=>mE e λy c j=>?_;obtain⟨a,C,rfl⟩:=q;obtain⟨H,u,_,w,m,z,_,f⟩:=R.gl.at_ k _<|GO.list_eq E▸F
   exact j▸bn (u.symm.trans C)▸(kj (p) f c).Rl z rfl rfl
  |cd=>exact nE e
  |iH=>exact nE e
theorem m6(R:Rel i locs W r g h)(q:ez i W h f v)(e:BR g f=some d):nP h v d 10:=by
 induction f with
 |v x=>have⟨a,b,c⟩:=pR R 9 q e;exact⟨a,b,Ku c⟩
 |ml t l=>obtain⟨a,rfl,o,m,z,_,j⟩:=q;exact mE e λp n k=>k▸(kj (pR R 9) j n).Rl z rfl rfl
 |md=>exact nE e
theorem nP.shaped (x:nP h v d 10):SeqAt.shaped d=true:=sB.mpr ⟨x.lay,decide_eq_true<|am x.dep (ut ..)⟩
theorem TF(R:Rel f locs W r g s.heap)(o:ez f W s.heap x a)(n:ez f W s.heap y b)(e:Xz g x y=some c)(p:A.units+64<cLine):wpAny (model f.prog f.w) A (compareOp .Eq a b) (λv k=>v=.bool c/\jm s k) No s:=bE e λd t e=>mE e λu q e=>by have j:=m6 R o t;have i:=m6 R n q;exact j.rd.elim λ_ m=>i.rd.elim λ_ l=>eq_dataH m l j.shaped i.shaped p ⟨congrArg _ e,.iX⟩
theorem TC(R:Rel f locs W r g s.heap)(o:ez f W s.heap x a)(n:ez f W s.heap y b)(e:Xz g x y=some c)(p:A.units+64<cLine):wpAny (model f.prog f.w) A (compareOp .NotEq a b) (λv k=>v=.bool (!c)/\jm s k) No s:=bE e λd t e=>mE e λu q e=>by have j:=m6 R o t;have i:=m6 R n q;exact j.rd.elim λ_ m=>i.rd.elim λ_ l=>ne_dataH m l j.shaped i.shaped p ⟨congrArg (λc=>Value.bool !c) e,.iX⟩
theorem iL.reads {W} (V:iL (Z:=Z) W h u l v a E m) (R:Rel Z locs W r g h) (e:k5 (dat g 9) l=some C):(∃D,Reads h (.ref a) (if u then .tuple C else .list C) D)/\ca C=true:=by
 have q:=kj (pR R 9) V.rel e;have:=V.ho;refine⟨?_,q.lay⟩;induction u with
 |true=>exact q.rd.elim λ_ z=>⟨_,Ui this rfl rfl z⟩
 |false=>exact q.rd.elim λ_ z=>⟨_,UM this rfl rfl z⟩
end
end Mine.Internal
end
section
open PySem PySem.Calls PyProof.Rows PySem.W
open scoped Classical
namespace Mine.Internal
section
variable{Z:Cx} {locs:List (Option Loc)} {W:Gh} {s:Shared} {h:Heap}
theorem zX{i:Decidable p}(h:a=true↔p):a=decide p:=by
 induction a with
 |true=>exact(decide_eq_true<|h.mp rfl).symm
 |false=>exact(decide_eq_false λq=>iB<|h.mpr q).symm
theorem ze(a)(i):valueAt a i=(aM (.int i)<|a.map λx=>.int x.1).bind λn=>(a.map (·.2))[n]?:=mY (λb:Int×Value=>decide<|b.1=i) (λx=>.int x.1) (·.2) (.int i) a λ_ _=>rfl
theorem za(a)(i):valueAt a i=(aM (.str i)<|a.map λx=>.str x.1).bind λn=>(a.map (·.2))[n]?:=mY (λb:Str×Value=>decide<|b.1=i) (λx=>.str x.1) (·.2) (.str i) a λ_ _=>rfl
theorem xO(a:isKey 6 k=true)(x):PV.beq x k=decide (x=k):=zX<|pV 6 a
theorem zc(a)(k)(b:isKey 6 k=true):(atKey a k).map (·.2)=(aM k<|a.map (·.1)).bind λn=>(a.map (·.2.2))[n]?:=(Option.map_map ..).trans (mY (λx:PV×Addr×Value=>decide<|x.1=k) (λx=>x.1) (·.2.2) k a λx _=>xO b x.1)
theorem Dp(a)(i):(valueAt a i).isSome=(aM (.int i)<|a.map λx=>.int x.1).isSome:=qa.trans (gH (λb=>decide<|b.1=i) (λx=>.int x.1) (.int i) a λ_ _=>rfl)
theorem Dm(a)(i):(valueAt a i).isSome=(aM (.str i)<|a.map λx=>.str x.1).isSome:=qa.trans (gH (λb=>decide<|b.1=i) (λx=>.str x.1) (.str i) a λ_ _=>rfl)
theorem Dn(a)(k)(b:isKey 6 k=true):(atKey a k).isSome=(aM k<|a.map (·.1)).isSome:=qa.trans (gH (λx:PV×Addr×Value=>decide<|x.1=k) (λx=>x.1) k a λx _=>xO b x.1)
theorem S5(h:DG k=true):∃i,k=.int i:=(Pi.mp h).elim λi e=>⟨i,PV.cU e⟩
theorem S4(h:I3 k=true):∃i,k=.str i:=(Pi.mp h).elim λi e=>⟨i,PV.sY e⟩
theorem IF{C:Prop}{ks:List PV}(h:((DG k&&ks.all DG)||(I3 k&&ks.all I3))=true)(d:∀i,k=.int i->ks.all DG=true->C)(c:∀s,k=.str s->ks.all I3=true->C):C:=(FM.mp h).elim (λh=>aE h λb a=>(S5 b).elim λi e=>d i e a) λh=>aE h λb a=>(S4 b).elim λi e=>c i e a
theorem all_nil{a:Type}{f}{p:PV->Bool}(b:∀x,p (f x)=false){l:List a}:(l.map f).all p=true->l=[]:=by
 induction l with
 |nil=>exact λ_=>rfl
 |cons x _ c=>exact λh=>aE h λh _=>ff<|(b x).symm.trans h
theorem mw{K c}[DecidableEq K][DecidableEq c]{d:KeyKind Z.prog Z.w K}{b:KeyKind Z.prog Z.w c}{h:Heap}{a}(x:h.DictOf d a []):h.DictOf b a []:=by
 exact uQ x λo g i z=>have q:g= #[]:=yk.mp z.2.2.2.2.1.length
  ⟨o,#[],i,z.1,z.2.1,q▸z.2.2.1,λe f=>(Array.not_mem_empty _ f).elim,.nil,.nil⟩
theorem ui{K}[DecidableEq K]{c:KeyKind Z.prog Z.w K}{h:Heap}{b:List (K×Value)}(x:h.DictOf c a b):(b.map (·.1)).Nodup:=uQ x λ_ _ _ z=>z.2.2.2.2.2
inductive p'(W:Gh)(h:Heap)(c:List PV)(a:Addr):Bool->List PV->PV->Value->Prop
 |int {kvs:List (Int×Value)} {i:Int} {t:Tok}:h.DictOf (intKind Z.prog Z.w) a kvs->kvs.length<=az->ah Z W c (kvs.map (·.2))->p' W h c a false (kvs.map λx=>.int x.1) (.int i) (.int i t)
 |str {kvs:List (Str×Value)} {i:Str} {u:Tok}:h.DictOf (strKind Z.prog Z.w) a kvs->kvs.length<=az->ah Z W c (kvs.map (·.2))->p' W h c a false (kvs.map λx=>.str x.1) (.str i) (.str i u)
 |row {d:List (PV×Addr×Value)} {k:PV} {b:Addr}:h.DictOfH (kR Z.prog Z.w) a d->(∀x∈d,aA Z W x.1 (.ref x.2.1)/\isKey 6 x.1=true)->d.length<=az->ah Z W c (d.map (·.2.2))->isKey 6 k=true->KR h 6 k (.ref b)->aA Z W k (.ref b)->p' W h c a true (d.map (·.1)) k (.ref b)
theorem zk(b:ji a=false)(e:keyOk a k ks=true):((DG k&&ks.all DG)||(I3 k&&ks.all I3))=true:=by delta keyOk at e;rw[b]at e;exact e
theorem rX.key (R:Rel Z locs W r g h) (x:rX (Z:=Z) W h J a L ks) (e:keyOk L k ks=true) (I:aA Z W k u):p' (Z:=Z) W h J a (ji L) ks k u:=by
 have O:∀{i:Int},k=.int i->∃t,u=.int i t:=λ{i} e=>(e▸I:aA Z W (.int i) u);have N:∀{i:Str},k=.str i->∃t,u=.str i t:=λ{i} e=>(e▸I:aA Z W (.str i) u);revert e;induction x with
 |int F D H C=>rename_i kvs;exact λe=>F▸IF (zk F e) (λi e _=>(O e).elim λt E=>e▸E▸.int D H C) λi e q=>(N e).elim λt E=>have z:=all_nil (λ_=>rfl) q;e▸E▸z▸.str (kvs:=[]) (mw<|z▸D) (Rs _) (show ah Z W J [] from jb.mpr z▸C)
 |str F D H C=>rename_i kvs;exact λe=>F▸IF (zk F e) (λi e q=>(O e).elim λt E=>have z:=all_nil (λ_=>rfl) q;e▸E▸z▸.int (kvs:=[]) (mw<|z▸D) (Rs _) (show ah Z W J [] from jb.mpr z▸C)) λi e _=>(N e).elim λt E=>e▸E▸.str D H C
 |row D Q H C=>exact λe=>aE e λP M=>(Pi.mp P).elim λl q=>xY (PV.lR q▸I:aA Z W (.tup l) u) λb _ _ e _=>e▸.row D Q H C M (P8 R.fz 6 M<|e▸I) (e▸I)
theorem rX.typ (x:rX (Z:=Z) W s.heap u a z ks):s.TypeIs (.ref a) "dict":=by
 induction x with
 |int _ q=>exact q.typeIs
 |str _ q=>exact q.typeIs
 |row q=>exact q.typeIs
theorem p'.find (x:p' (Z:=Z) W s.heap L a b ks k u) (H:a≠sysModules) (M:A.units+65<cLine):wpAny (model Z.prog Z.w) A (compareOp .In u<|.ref a) (λv E=>v=.bool (aM k ks).isSome/\jm s E) No s:=by
 have q:=beq_false_of_ne H;induction x with
 |int z D C=>exact wpAny_in_of (sI ..) q z.mapOf ⟨by rw[Dp],_,rfl⟩
 |str z D C=>exact wpAny_in_of (nQ ..) q z.mapOf ⟨by rw[Dm],_,rfl⟩
 |row z N D C J I F=>exact wpAny_in_heap (knd:=kR Z.prog Z.w) (show A.units+1+64<cLine by omega) I q z ⟨congrArg _<|Dn _ _ J,_,rfl⟩
theorem p'.Mw (x:p' (Z:=Z) W s.heap H a false ks k u) (E:a≠sysModules):wpAny (model Z.prog Z.w) A (compareOp .NotIn u<|.ref a) (λv C=>v=.bool (!(aM k ks).isSome)/\jm s C) No s:=by
 have q:=beq_false_of_ne E;cases x with
 |int z F D=>exact wpAny_notIn_of (sI ..) q z.mapOf ⟨by rw[Dp],_,rfl⟩
 |str z F D=>exact wpAny_notIn_of (nQ ..) q z.mapOf ⟨by rw[Dm],_,rfl⟩
theorem p'.get (x:p' (Z:=Z) W s.heap vs a b ks k u) (N:A.units+65<cLine) (e:((aM k ks).bind λn=>vs[n]?)=some p):wpAny (model Z.prog Z.w) A (getItem (.ref a) u) (λv I=>aA Z W p v/\jm s I) No s:=by
 have C:∀{F:List Value},ah Z W vs F->∃y,((aM k ks).bind λn=>F[n]?)=some y/\aA Z W p y:=λq=>bE e λn S Q=>(q.get Q).elim λy z=>⟨y,(congrArg (rK · _) S).trans z.1,z.2⟩
 revert C;induction x with
 |int E H D=>exact λC=>(C D).elim λy z=>UH (sI ..) E.mapOf ((ze ..).trans z.1) ⟨z.2,_,rfl⟩
 |str E H D=>exact λC=>(C D).elim λy z=>UH (nQ ..) E.mapOf ((za ..).trans z.1) ⟨z.2,_,rfl⟩
 |row E U H D P O M=>exact λC=>(C D).elim λy z=>mE ((zc _ _ P).trans z.1) λq L J=>wpAny_getItem_heap (knd:=kR Z.prog Z.w) (show A.units+1+64<cLine from by rw[wn,wp 1];exact N) O E L ⟨J▸z.2,_,rfl⟩
end
end Mine.Internal
end
section
open PySem PySem.Calls PyProof.Rows PySem.W
namespace Mine.Internal
section
variable{Z:Cx}
theorem qI(b:IsPart v k)(h:Q k s):wpAny M A (UW v) Q E s:=by
 induction b with
 |none=>exact wpAny_pure h
 |int i t=>
  refine iG (show¬((Ye i t==Ek)=true) from xz) ?_;refine dL<|gO (T:="int") (typeIs_int s i t) int_index ?_
  exact dL<|K4 (a:=i) rfl<|wpAny_pure h
theorem F4(lo b)(n:Nat):qe lo b 1 n=(((lo.elim 0 (clipAt n):Nat):Int),((b.elim n (clipAt n):Nat):Int)):=by
 delta qe;have a:∀i:Int,((clipAt n i:Nat):Int)=if i<0 then max (i+n) 0 else min i n:=λi=>by
  rw[clipAt_cast];by_cases h:i<0
  .rw[if_pos h,if_pos h,Int.min_eq_left (by omega),Int.max_comm]
  .rw[if_neg h,if_neg h,Int.max_eq_right<|Int.le_min.mpr ⟨eQ.mp h,Do n⟩]
 induction lo<;>induction b<;>simp[a]
theorem Mi(b:Array Value)(a n:Nat):((Db n).filterMap λ(k:Nat)=>b[((a:Int)+(k:Int)*1).toNat]?)=(b.toList.drop a).take n:=by
 rw[<-pick_run b a n,List.filterMap_map];refine congrFun (congrArg Pf<|funext λk=>?_) _
 simp only[Int.mul_one,uG];exact congrArg _<|show((a:Int)+(k:Int)).toNat=a+k from rfl
theorem places_eq(a b:Nat):qc a b 1=b - a:=by
 delta qc;rw[if_pos (show(1:Int)>0 by decide),Int.ediv_one]
 by_cases h:a<b
 .rw[if_pos<|aV.mpr h,Int.sub_add_cancel,Int.toNat_sub]
 .rw[if_neg λq=>h<|aV.mp q,Ce<|iF.mp h];rfl
theorem nq{lo}(f:IsTup s.heap t a)(z:s.heap.IsSliceOf p m l .none)(u:IsPart m lo) (r:IsPart l c) (D:slicePick a lo c none=a->Q (.ref t) s)(C:Q (.ref s.heap.objs.size) {s with heap:=s.heap.push {cls:=.type "tuple",data:=.seq (slicePick a lo c none)}}) (h:a.size<=sizeLine):wpAny (model Z.prog Z.w) A (getItem (.ref t)<|.ref p) Q E s:=by
 refine eV (id z) λos b i d=>?_;delta getItem
 try with_reducible refine cG ?_
 first|refine dL (wpAny_pure ?_)|skip
 refine dL<|T' f.typeIs rfl ?_
 refine dL (F8 (name:=jv "__getitem__") f.typeIs kJ (ja kJ f.typeIs entry_tuple_getitem ?_ (args_tuple_getitem _ _)));show wpAny _ _ (oR (.ref t)>>=_) _ _ s;refine dL<|tupleItemsOf_ f ?_
 refine dL<|uL (⟨os,b,i⟩) ?_
 refine nY rfl ?_;refine dL ?_;refine dL<|dL<|K7 b d (x:=m) rfl<|dL<|K7 b d (x:=l) rfl<|dL<|K7 b d (x:=.none) rfl<|wpAny_pure ?_
 refine dL<|qI .none ?_
 simp only[Option.getD_none];refine iG (by decide) ?_
 refine dL<|qI u<|dL<|qI r<|dL<|wpAny_pure<|wpAny_pure ?_
 simp only[F4,places_eq];have o:=Yc a lo c;have j:wpAny (model Z.prog Z.w) A.in1 (UU ((Db<|(c.elim a.size<|clipAt a.size) -(lo.elim 0<|clipAt a.size)).filterMap λ(k:Nat)=>a[(((lo.elim 0 (clipAt a.size):Nat):Int)+(k:Int)*1).toNat]?).toArray) (λv n=>Q v n) E s:=by rw[Mi,<-o];exact uM C<|am (Ue a lo c none) h
 by_cases g:(((lo.elim 0 (clipAt a.size):Nat):Int)==0&&(1:Int)==1&&c.elim a.size (clipAt a.size) - lo.elim 0 (clipAt a.size)==a.size)=true
 .refine nY g ?_;simp only[fM,beq_iff_eq]at g;have y:slicePick a lo c none=a:=by
   rw[o,(by omega:lo.elim 0 (clipAt a.size)=0),(by have:=g.2;omega:c.elim a.size (clipAt a.size)=a.size),List.drop_zero,Ag (by simp)]
  refine dL<|dL<|uL f.typeIs<|wpAny_pure ?_
  exact nY rfl<|dL<|i9<|dL<|wpAny_pure<|wpAny_pure ⟨_,rfl,wpAny_pure<|D y⟩
 .refine iG g ?_;exact dL<|o0 j (λv n q=>dL<|wpAny_pure<|wpAny_pure ⟨_,rfl,wpAny_pure q⟩) λ_ _ e=>e
end
section
variable{locs:List (Option Loc)} {s:Shared} {st:St}
theorem EP.val (R:Rel u locs W st.r st.g s.heap) (q:aA u W x v) (t:jm s z):EP u locs s W st (.v x) v z:=⟨W,t.EA R,by obtain⟨t,rfl⟩:=t;exact q,λq=>ff q⟩
theorem ky.off (x:ky D W h z (.ref a)) (t:gj z=true):W.O a=none:=by
 induction z with
 |v=>exact ff t
 |ml=>obtain⟨_,C,u,q,_⟩:=x;cases u;exact q
 |md=>obtain⟨_,C,u,q,_⟩:=x;cases u;exact q
theorem EP.then (x:eM E locs s W F H L) (y:EP E locs H L st'' I v u):EP E locs s W st'' I v u:=by
 obtain⟨D,a,b,c⟩:=y;refine⟨D,x.trans a,b,λt C e=>?_⟩;subst e;induction q:s.heap.get? C with
 |none=>rfl
 |some o=>
  induction z:W.O C with
  |none=>exact nE<|(c t C rfl).symm.trans<|x.keep.free _ _ q z
  |some M=>exact((x.trans a).ext.tagged z).elim λN J=>nE<|(b.off t).symm.trans J
theorem EP.newList {u} (R:Rel z locs W st.r st.g s.heap) (k:gI s.heap u) (q:ah z W l xs.toList) (D:xs.size<=az):EP z locs s W st (.ml none l) (.ref u.objs.size) {s with heap:=u.push<|jz xs 0,toks:=tk}:=by have C:=k.bA;exact⟨W,eM.grow R<|k.trans<|.push _ _,⟨rfl,_,rfl,(R.bA C),xs,0,On _ rfl,D,q⟩,λ_ a e=>by cases e;exact C⟩
theorem EP.w0 {u} (R:Rel z locs W st.r st.g s.heap) (k:gI s.heap u) (q:ah z W l xs.toList) (E:xs.size<=az):EP z locs s W st (.v<|.tup l) (.ref u.objs.size) {s with heap:=u.push<|qy xs 0,toks:=tk}:=by have D:=k.bA;have C:=R.bA D;refine⟨W.tag u.objs.size<|some<|.fz<|qy xs 0,⟨⟨_,_,rfl⟩,Ext.fresh C D,.kT<|k.trans<|.push _ _,((R.grow<|k.trans<|.push _<|qy xs 0).fresh C<|On _ rfl)⟩,show aA z (W.tag u.objs.size<|some<|.fz<|qy xs 0) (.tup l) (.ref u.objs.size) from⟨_,xs,0,rfl,Gh.aG ..,E,q.mono<|.tag λo e=>nE<|C.symm.trans e⟩,λq=>ff q⟩
theorem CW(R:Rel f locs W r g s.heap)(z:aA f W p a)(x:ez f W s.heap y b)(q:cA g y=some l)(F:k5 (dat g 9) l=some o) (E:dat g 9 p=some d) (D:A.units+65<cLine):wpAny (model f.prog f.w) A (compareOp .In a b) (λv m=>v=.bool (o.any λy=>TW y d)/\jm s m) No s/\wpAny (model f.prog f.w) A (compareOp .NotIn a b) (λv m=>v=.bool (!o.any λy=>TW y d)/\jm s m) No s:=by
 refine sA λC u=>?_;refine uQ (d6 R x q) λM I n V=>?_;obtain⟨⟨L,h⟩,k⟩:=V.reads R F;obtain⟨⟨J,i⟩,j,H⟩:=pR R 9 z E;obtain rfl:=V.e;have c:A.units+1+min (Gv o) d.depth<cLine:=ac (db (am (eD _ _) H) _) (ac (by rw[wn];exact db (by decide) _) D)
 refine u ?_;induction t:isTup y with
 |true=>rw[t]at h;exact⟨SeqAt.in_tuple_reads h i k j c ⟨rfl,.iX⟩,SeqAt.notIn_tuple_reads h i k j c ⟨rfl,.iX⟩⟩
 |false=>rw[t]at h;exact⟨SeqAt.in_list_reads h i k j c ⟨rfl,.iX⟩,SeqAt.notIn_list_reads h i k j c ⟨rfl,.iX⟩⟩
theorem DY(R:Rel c locs W r g s.heap)(j:aA c W p a)(i:ez c W s.heap y b)(n:uj g y=some d)(l:keyOk y p d.1=true)(k:A.units+65<cLine):wpAny (model c.prog c.w) A (compareOp .In a b) (λv e=>v=.bool (aM p d.1).isSome/\jm s e) No s/\(ji y=false->wpAny (model c.prog c.w) A (compareOp .NotIn a b) (λv e=>v=.bool (!(aM p d.1).isSome)/\jm s e) No s):=by refine eV (iq R i (ks:=d.1) (vs:=d.2) n) λo f h D=>?_;subst f;have D:=D.key R l j;exact⟨D.find h k,λm=>(m▸D:p' W s.heap _ _ false _ _ _).Mw h⟩
theorem I9(R:Rel f locs W r g s.heap)(k:aA f W p a)(j:ez f W s.heap y b)(e:inR g p y=some c)(m:A.units+65<cLine):wpAny (model f.prog f.w) A (compareOp .In a b) (λv n=>v=.bool c/\jm s n) No s/\((!ji y||(cA g y).isSome)=true->wpAny (model f.prog f.w) A (compareOp .NotIn a b) (λv n=>v=.bool (!c)/\jm s n) No s):=by
 induction q:cA g y with
 |some l=>rw[inR,q]at e;exact bE e λu i e=>mE e λd t e=>e▸⟨(CW R k j q i t m).1,λ_=>(CW R k j q i t m).2⟩
 |none=>rw[inR,q]at e;exact bE e λd i e=>iE e λo e=>bn e▸⟨(DY R k j i o m).1,λh=>(DY R k j i o m).2<|bN<|(cB _).symm.trans h⟩
theorem I1(f:ez g W s.heap x a)(j:ez g W s.heap y b)(e:isR x y=some c):b=.none/\(a==.none)=c:=iE e λh e=>by
  obtain rfl:=RV.DD h;refine⟨j,?_⟩;induction x with
  |ml=>obtain⟨a,rfl,_⟩:=f;exact bn e
  |md=>obtain⟨a,rfl,_⟩:=f;exact bn e
  |v x=>
   cases x with
   |none=>obtain rfl:=(show a=.none from f);exact bn e
   |int i=>obtain⟨t,rfl⟩:=(f:∃t,a=.int i t);exact bn e
   |str i=>obtain⟨t,rfl⟩:=(f:∃t,a=.str i t);exact bn e
   |tup=>refine xY f λa _ _ d _=>?_;subst d;exact bn e
   |lst=>refine xY f λa _ _ d _=>?_;subst d;exact bn e
   |cd=>refine nF f λa _ d _=>?_;subst d;exact bn e
   |_=>exact nE e
theorem pM{C:Prop}(h:ez d W s.heap x a)(g:ez d W s.heap y b)(e:I7 f x y=some c)(k:∀i j t u,a=.int i t->b=.int j u->f i j=c->C):C:=bE e λi p e=>mE e λj o n=>by obtain rfl:=RV.cU p;obtain rfl:=RV.cU o;exact(show∃t,a=.int i t from h).elim λt m=>(show∃t,b=.int j t from g).elim λu l=>k i j t u m l n
theorem uo(R:Rel n locs W r g s.heap)(m:ez n W s.heap x a)(l:ez n W s.heap y b)(e:aS g op x y=some c)(q:A.units+65<cLine):wpAny (model n.prog n.w) A (compareOp op a b) (λv z=>v=.bool c/\jm s z) No s:=by
 induction op with
 |Eq=>exact TF R m l e<|cM q
 |NotEq=>exact mE e λd o e=>e▸TC R m l o (cM q)
 |Is=>have⟨f,k⟩:=I1 m l e;exact f▸is_none ⟨congrArg _ k,.iX⟩
 |IsNot=>exact mE e λd o e=>AH (I1 m l o) λf k=>f▸isNot_none ⟨e▸k▸rfl,.iX⟩
 |In=>exact bE e λp f e=>(I9 R (show ez n W s.heap (.v p) a from RV.lP f▸m) l e q).1
 |NotIn=>exact iE e λC e=>bE e λp f e=>mE e λd o e=>e▸(I9 R (show ez n W s.heap (.v p) a from RV.lP f▸m) l o q).2 C
 |Lt=>exact pM m l e λi j t u f k h=>f▸k▸h▸lt_int ⟨rfl,.iX⟩
 |LtE=>exact pM m l e λi j t u f k h=>f▸k▸h▸le_int ⟨rfl,.iX⟩
 |Gt=>exact pM m l e λi j t u f k h=>f▸k▸h▸gt_int ⟨rfl,.iX⟩
 |GtE=>exact pM m l e λi j t u f k h=>f▸k▸h▸ge_int ⟨rfl,.iX⟩
end
section
variable{Z:Cx} {locs:List (Option Loc)} {s:Shared} {st:St}
theorem cK(h:n<=az):n<=sizeLine:=by rw[qi];delta az at h;omega
theorem B4(e:binI op i j=some k):wpAny (model Z.prog Z.w) A (binaryOp op (.int i t)<|.int j u) (λv c=>(∃b,v=.int k b)/\jm s c) No s:=by
 induction op with
 |Add=>exact bn e▸add_int ⟨⟨_,rfl⟩,_,rfl⟩
 |Sub=>exact bn e▸sub_int ⟨⟨_,rfl⟩,_,rfl⟩
 |Mod=>exact iE e λh e=>bn e▸mod_int' (US h) ⟨⟨_,rfl⟩,_,rfl⟩
 |LShift=>exact iE e λa e=>YB a λl g d f=>bn e▸lshift_int_small d (by omega) (by omega) ⟨⟨_,rfl⟩,_,rfl⟩
 |RShift=>exact iE e λh e=>bn e▸rshift_int h.1 ⟨⟨_,rfl⟩,_,rfl⟩
 |BitOr=>exact bn e▸or_int ⟨⟨_,rfl⟩,_,rfl⟩
 |BitAnd=>exact bn e▸and_int ⟨⟨_,rfl⟩,_,rfl⟩
 |FloorDiv=>exact iE e λh e=>bn e▸floordiv_int (US h.1) ⟨⟨_,rfl⟩,_,rfl⟩ (Or.inl<|PyProof.noPylong_small (by omega))
 |_=>exact nE e
theorem O3(R:Rel Z locs W st.r st.g s.heap)(o:W.O a=some (.fz<|qy xs n))(j:W.O b=some (.fz<|qy d m))(h:ah Z W l xs.toList) (i:ah Z W k d.toList) (x:xs.size<=az) (u:d.size<=az) (y:l.length+k.length<=az):wpAny (model Z.prog Z.w) A (binaryOp .Add (.ref a)<|.ref b) (EP Z locs s W st<|.v<|.tup<|l++k) No s:=by
 have e:=R.fz _ _ o;have c:=R.fz _ _ j;have t:l.length=xs.size:=by have:=h.length;exact this
 have q:k.length=d.size:=by have:=i.length;exact this
 by_cases f:xs.isEmpty=true
 .have:xs= #[]:=by simpa using f
  subst this;have:l=[]:=by simp at t;exact t
  subst this;refine Gs ⟨_,e,rfl⟩ ⟨_,c,rfl⟩ wg Ej kL jW (jN _ _) (tuple_addW0 a b _ d n m none none #[] #[] rfl) ⟨e,c,EP.val R (show aA _ _ _ _ from ?_) .iX⟩;exact⟨b,d,m,rfl,j,u,i⟩
 .by_cases p:d.isEmpty=true
  .have:d= #[]:=by simpa using p
   subst this;have:k=[]:=by simp at q;exact q
   subst this;refine Gs ⟨_,e,rfl⟩ ⟨_,c,rfl⟩ wg Ej kL jW (jN _ _) (tuple_addW1 a b xs _ n m none none #[] #[] f rfl) ⟨e,c,EP.val R (show aA _ _ _ _ from ?_) .iX⟩;exact(u8 _).symm▸⟨a,xs,n,rfl,o,x,h⟩
  .refine Gs ⟨_,e,rfl⟩ ⟨_,c,rfl⟩ wg Ej kL jW (jN _ _) (tuple_addW2 a b xs d n m none none #[] #[] f p<|cK (by omega)) ⟨e,c,?_⟩
   exact EP.w0 (xs:=xs++d) R .rfl (by simpa using h.append i) (by simp;omega)
theorem O4(R:Rel Z locs W st.r st.g s.heap)(d:iL (Z:=Z) W s.heap false l j a xs n) (c:iL (Z:=Z) W s.heap false k i b h m) (f:l.length+k.length<=az):wpAny (model Z.prog Z.w) A (binaryOp .Add j i) (EP Z locs s W st<|.ml none<|l++k) No s:=by obtain rfl:=d.e;obtain rfl:=c.e;have f:=d.len▸c.len▸f;exact P.add_list (items:=xs) (n:=n) (items2:=h) (n2:=m) d.ho c.ho (EP.newList (xs:=xs++h) R .rfl (by rw[Array.toList_append];exact d.rel.append c.rel)<|Array.size_append▸f) (cK f)
theorem B8(R:Rel Z locs W st.r st.g s.heap)(j:ez Z W s.heap x a)(i:ez Z W s.heap y b)(e:O5 st.g x y=some z):wpAny (model Z.prog Z.w) A (binaryOp .Add a b) (EP Z locs s W st z) No s:=bE e λl o e=>bE e λm k e=>iE e λf h=>by
  induction d:isTup x with
  |false=>refine uQ (d6 R j o) λ_ q n V=>?_;refine uQ (d6 R i k) λ_ p F U=>?_;rw[d]at h V;rw[<-f.2,d]at U;exact bn h▸O4 R V U f.1
  |true=>
   obtain rfl:=oZ o d;obtain rfl:=oZ k<|f.2.symm.trans d
   refine Et j λa q n c E D C=>?_;subst c;refine Et i λb p F c v u t=>?_;subst c;exact bn h▸O3 R E v C t D u f.1
theorem B3(R:Rel Z locs W st.r st.g s.heap)(d:ez Z W s.heap x a)(c:ez Z W s.heap y b)(e:hK st.g op x y=some z):wpAny (model Z.prog Z.w) A (binaryOp op a b) (EP Z locs s W st z) No s:=by
 induction q:x.int? with
 |some i=>rw[hK,q]at e;refine bE e λj o e=>mE e λk n m=>?_;obtain rfl:=RV.cU q;obtain rfl:=RV.cU o;exact(show∃t,a=.int i t from d).elim λt l=>(show∃t,b=.int j t from c).elim λu f=>l▸f▸m▸o0 (B4 n) (λ_ _ q=>EP.val R q.1 q.2) λ_ _ q=>q
 |none=>
  rw[hK,q]at e;exact iE e λh e=>by
   induction op with
   |Add=>exact B8 R d c e
   |_=>exact ff h
inductive T5(m:Nat):Int->Nat->Prop
 |pos {n:Nat}:n<m->T5 m n n
 |neg {n k:Nat}:k+n+1=m->T5 m (-((n:Int)+1)) k
theorem S7(e:idx l i=some n):T5 l.length i n:=by
 induction i with
 |ofNat k=>exact mE e λx b a=>a▸.pos (ty.mp b).1
 |negSucc k=>
  refine iE e λb a=>?_;have:n+k+1=l.length:=by have:=bn a;omega
  exact .neg this
theorem A'{n:Nat}(h:n<m):seqIndex? (n:Int) m=some n:=by rw[seqIndex?,if_neg<|eQ.mpr<|Do n,if_pos<|sB.mpr ⟨decide_eq_true<|Do n,decide_eq_true<|aV.mpr h⟩];rfl
theorem Ba{k:Nat}(h:k+n+1=m):seqIndex? (-((n:Int)+1)) m=some k:=by
 have e:(if -((n:Int)+1)<0 then -((n:Int)+1)+(m:Int)else -((n:Int)+1))=(k:Int):=(if_pos (by omega)).trans (by omega)
 unfold seqIndex?;simp only[e];exact if_pos<|sB.mpr ⟨decide_eq_true<|Do k,decide_eq_true<|aV.mpr<|h▸gY (pp k n)⟩
theorem t5{a:Array Value}(b:l.length=a.size)(e:idx l i=some n)(c:a.size<=az):n<a.size/\seqIndex? i a.size=some n/\ -(2^63)<=i/\i<2^63/\((0<=i/\n=i.toNat)\/(i<0/\ -(a.size:Int)<=i/\n=(i+a.size).toNat)):=by
 have q:=b▸S7 e;delta az at c;induction q with
 |pos h=>exact⟨h,A' h,by omega,by omega,.inl ⟨Do _,rfl⟩⟩
 |neg h=>exact⟨by omega,Ba h,by omega,by omega,.inr ⟨by omega,by omega,by omega⟩⟩
theorem AU(R:Rel Z locs W r g s.heap)(C:ez Z W s.heap x a)(z:aA Z W k b)(e:gy g x k=some p)(J:A.units+65<cLine):wpAny (model Z.prog Z.w) A (getItem a b) (λv I=>aA Z W p v/\jm s I) No s:=by
 induction q:cA g x with
 |some l=>
  rw[gy,q]at e;refine bE e λi e0 e=>bE e λn o j=>?_;refine uQ (d6 R C q) λS H m V=>?_;obtain rfl:=V.e;obtain rfl:=PV.cU e0;obtain⟨t,rfl⟩:=(z:∃t,b=.int i t);refine YA (t5 V.len o V.sz) λU O F E N=>?_;refine aO (V.rel.get j) λy Q h=>?_;have f:=UV.symm.trans Q;induction u:isTup x with
  |true=>exact getItem_tuple (u▸V:iL W s.heap true l _ _ H m).tupI F E O f ⟨h,.iX⟩
  |false=>
   replace V:=u▸V;rcases N with⟨c,rfl⟩|⟨c,M,rfl⟩
   .exact wpAny_getItem_list V.tL c E f ⟨h,.iX⟩
   .exact wpAny_getItem_list_neg V.tL c M F f ⟨h,.iX⟩
 |none=>rw[gy,q]at e;exact bE e λd o e=>iE e λL j=>eV (iq R C (ks:=d.1) (vs:=d.2) o) λS P T D=>P▸(D.key R L z).get J j
theorem G'(R:Rel Z locs W r g s.heap)(f:ez Z W s.heap x a)(e:gy g x k=some p):∃T id,s.TypeIs a T/\typeLookup (.type T) "__getitem__"=pure (some<|.builtin id):=by
 induction q:cA g x with
 |some l=>
  refine uQ (d6 R f q) λi j m V=>?_;obtain rfl:=V.e;induction c:isTup x with
  |true=>rw[c]at V;exact⟨_,_,V.tupI.typeIs,kJ.lookup⟩
  |false=>rw[c]at V;exact⟨_,_,V.tL.typeIs,Ud.lookup⟩
 |none=>rw[gy,q]at e;refine bE e λd h o=>?_;refine eV (iq R f (ks:=d.1) (vs:=d.2) h) λi b n D=>?_;subst b;exact⟨_,_,D.typ,slot_dict_getitem.lookup⟩
theorem sU(a)(o i):∃b,subscripted a false o i=operate b (getItem o i):=by
 cases a with
 |Slice _ _ s=>induction s<;>exact⟨_,rfl⟩
 |_=>exact⟨_,rfl⟩
theorem n7{id}(f:s.TypeIs o T)(k:typeLookup (.type T) "__getitem__"=pure (some<|.builtin id)) (h:wpAny (model Z.prog Z.w) A (getItem o i) Q E s):wpAny (model Z.prog Z.w) A (subscriptTail c a o i) Q E s:=by
 refine fN (sU a o i) λg j=>?_;refine dL ?_;rw[getitemInPython_of_ne f.not_modules];refine dL<|gO f k ?_
 have d:wpAny (model Z.prog Z.w) A (subscripted a false o i) (λr b=>wpAny (model Z.prog Z.w) A (letTemporaryGo c o r>>=λ_=>pure r) Q E b) E s:=j▸wpAny_operating (o0 h (λr b e=>dL<|K6<|wpAny_pure e) λ_ _ x=>x)
 first
  |exact wpAny_pure<|dL d
  |exact dL<|wpAny_pure<|dL d
  |exact dL d
inductive pZ:Option PV->Value->Option Int->Prop
 |none:pZ none .none none
 |int (i:Int) (t:Tok):pZ (some<|.int i) (.int i t) (some i)
theorem pZ.xh (x:pZ p v i):IsPart v i:=by
 induction x with
 |none=>exact .none
 |int i t=>exact .int i t
theorem zP(x:pZ p v i)(e:endOf n d p=some b):b=i.elim d (clipAt n):=by
 induction x with
 |none=>exact(bn e).symm
 |int i t=>exact(bn e).symm
theorem EM{lo}(R:Rel Z locs W st.r st.g s.heap)(D:ez Z W s.heap x a)(o:pZ lo c C)(n:pZ N b z)(e:ya st.g x lo N=some y):wpAny (model Z.prog Z.w) A (subscriptTail value j a<|.ref s.heap.objs.size) (EP Z locs s W st y) No {s with heap:=s.heap.push {cls:=.type "slice",data:=.fields #[c,b,.none]}}:=by
 refine bE e λl H e=>bE e λP F e=>mE e λO E i=>?_;refine uQ (d6 R D H) λU h m V=>?_;obtain rfl:=V.e;rw[V.len]at F E;have p:ah Z W ((l.take O).drop P) (slicePick h C z none).toList:=by rw[Yc,<-zP o F,<-zP n E,<-List.drop_take];exact(V.rel.take _).drop _
 have d:=am (Ue h C z none) V.sz;have u:gI s.heap (s.heap.push {cls:=.type "slice",data:=.fields #[c,b,.none]}):=.push _ _;induction t:isTup x with
 |true=>
  rw[t]at i;cases i;have f:=(t▸V:iL W s.heap true l _ _ h m).tupI.push {cls:=.type "slice",data:=.fields #[c,b,.none]};refine n7 (s:={s with heap:=s.heap.push {cls:=.type "slice",data:=.fields #[c,b,.none]}}) f.typeIs kJ.lookup (nq (s:={s with heap:=s.heap.push {cls:=.type "slice",data:=.fields #[c,b,.none]}}) f (uF ..) o.xh n.xh (λM=>?_) ?_<|cK V.sz)
  .refine⟨W,eM.grow (tk:=s.toks) R u,?_,λq=>ff q⟩;obtain rfl:=oZ H t;refine Et D λT I S L v J Q=>?_;cases L;have k:=(R.fz _ _ v).symm.trans V.ho;replace k:=(if_pos rfl)▸t▸k;cases k;exact⟨_,_,_,rfl,v,J,M▸p⟩
  .exact EP.w0 (s:=s) (tk:=s.toks) R u p d
 |false=>rw[t]at i;cases i;have f:=(t▸V:iL W s.heap false l _ _ h m).tL.push {cls:=.type "slice",data:=.fields #[c,b,.none]};exact n7 (s:={s with heap:=s.heap.push {cls:=.type "slice",data:=.fields #[c,b,.none]}}) f.typeIs Ud.lookup (wpAny_getItem_list_slice (s:={s with heap:=s.heap.push {cls:=.type "slice",data:=.fields #[c,b,.none]}}) f (uF ..) o.xh n.xh .none (by simp) (EP.newList (s:=s) (tk:=s.toks) R u p d) (cK V.sz))
end
section
variable{prog:lH} {w:gL} {A:dA} {E:Value->Shared->Prop} {s:Shared}
theorem Fo{k:Unit->Sem c}(b:s.heap.get? S=some (jz #[] 0))(h:∀H,cR S s.heap H->H.get? S=some (jz #[] 2)->wpAny M A (k ()) Q E {s with heap:=H}):wpAny M A ((updateSeq S (·.push .none)>>=λ_=>updateSeq S (·.pop))>>=k) Q E s:=by
 have d:(#[]:Array Value).size<=sizeLine:=Rs _;refine dL<|dL<|yg b rfl ?_
 have a:=ie (dX (·.push Ek)) b rfl
 refine yg (s:={s with heap:=s.heap.update S (dX (·.push Ek))}) a rfl ?_
 exact h _ (Yu (g4 ..) (g4 ..))<|ie (dX (·.pop)) a rfl
set_option maxHeartbeats 4000000 in
theorem xE{K:Type}[DecidableEq K]{knd:KeyKind prog w K}{d:Addr}{h:List (K×Value)}{Q:List Value->Shared->Prop}(hh:A.handled=none)(hd:(d==sysModules)=false)(N:s.heap.DictOf knd d h)(hn:h.length<=sizeLine)(hQ:∀O Y(M:Array Value),(∀b o,s.heap.get? b=some o->O.get? b=some o)->ItemsOf (λi v=>∃k x,h[i]?=some (k,x)/\knd.is k v=true) M h.length->Q M.toList {s with heap:=O,toks:=Y}):wpAny (model prog w) A (collect<|.ref d) Q E s:=by
 refine fN N.dictAt λC N=>?_;refine dL<|wpAny_runValue<|gP F.entry_proto_collect ?_
 rw[dz F.plain_proto_collect _];refine dL<|uM ?_
 refine wpAny_pure ⟨jn F.plain_list_iadd _,gP F.entry_list_iadd ?_⟩;rw[dz F.plain_list_iadd _];show wpAny _ A.in1 (Yz (.ref s.heap.objs.size) (.ref d)<|.ref s.heap.objs.size) _ _ _
 have g:gI s.heap (s.heap.push {cls:=.type "list",data:=.seq ([]:List Value).toArray}):=.push _ _;have f:=N.push {cls:=.type "list",data:=.seq ([]:List Value).toArray};have m:(s.heap.push {cls:=.type "list",data:=.seq ([]:List Value).toArray}).get? s.heap.objs.size=some (jz #[] 0):=On _ rfl;have T:=bF N.lt_size;have P:=g.bA;have P:s.heap.get? s.heap.objs.size=none:=b0<|v6 _
 revert f m g;generalize s.heap.push {cls:=.type "list",data:=.seq ([]:List Value).toArray}=a;generalize s.heap.objs.size=S at T P;intro g f m;have u:K8 {s with heap:=a} (.ref d) "dict":=f.dictOf.typeIs
 refine dL<|uL u ?_
 have h1:rx (.ref S) (.ref d)=false:=beq_false_of_ne<|oM T
 refine iG (c:=(rx (.ref S) (.ref d)||uN "dict"==uN "list"||uN "dict"==uN "tuple")=true) (by rw[h1];decide) ?_
 refine dL<|wpAny_pyIter_dict hd f ?_
 refine dL<|cG ?_
 have j:gI a (a.push {cls:=.type "dict_keyiterator",data:=.fields #[.ref d,.int 0 0,.int h.length 0,.int C 0]}):=.push _ _;have l:=f.push {cls:=.type "dict_keyiterator",data:=.fields #[.ref d,.int 0 0,.int h.length 0,.int C 0]};have p:(a.push {cls:=.type "dict_keyiterator",data:=.fields #[.ref d,.int 0 0,.int h.length 0,.int C 0]}).IsKeyIter a.objs.size d 0 h.length C:=⟨_,On _ rfl,rfl,rfl⟩;have R:a.get? a.objs.size=none:=b0<|v6 _
 revert j l p;generalize a.push {cls:=.type "dict_keyiterator",data:=.fields #[.ref d,.int 0 0,.int h.length 0,.int C 0]}=r;generalize a.objs.size=I at R;intro j l p;have n:K8 {s with heap:=r} (.ref d) "dict":=l.dictOf.typeIs
 refine dL<|gO n F.slot_dict_len.lookup ?_
 generalize D:("dict.__len__":String)=U
 wp_delta
 rw[show splitId U=some ("dict","__len__") from by subst D;decide+kernel]
 subst D;refine dL<|UG (b:=true) n (by rw[isSubtype_type];kernel_rfl) ?_
 refine iG (c:=(!true)=true) (by decide) ?_
 refine nY rfl ?_;refine dL<|uL n<|wpAny_pure ?_
 refine nY rfl ?_;refine dL<|i9 ?_
 have X:I≠S:=λq=>nE<|R.symm.trans<|q▸m
 refine Fo (s:={s with heap:=r}) (j.keep _ _ m) λH hs y=>?_
 have t:∀b o,b≠S->r.get? b=some o->H.get? b=some o:=λb o hb e=>(hs.2 b hb).trans e;have Wk:=(Walks.dictKeys (prog:=prog) (w:=w) (A:=A.in1) (knd:=knd) hh I d (oM (λq=>by subst q;exact f.dictOf.elim λo z=>nE<|R.symm.trans<|z.elim λ_ z=>z.elim λ_ z=>z.1)) h C).toS
 refine wpAny_pure ⟨jn F.plain_extend_loop _,codeAny_extend_loopS Wk hn _ (λz=>(rc.mp z).elim (λe=>X e.symm) λz=>T (wP.mp z).symm) _ _ 0 {s with heap:=H} #[] 2 rfl (Rs _) ⟨p.at λo e=>t _ o X e,l.at' λo e=>t _ o T e⟩ y (ItemsOf.nil _) λs' L c' V W J=>?_⟩
 refine dL<|wpAny_load W<|wpAny_pure ?_
 obtain⟨O,g',d',Z,o'⟩:=s';obtain⟨m1,m2,m3,m4,m5⟩:=V;obtain rfl:=(show g'=s.gens from m2);obtain rfl:=(show d'=s.drawn from m3);obtain rfl:=(show o'=s.os from m4);refine hQ O Z L (λb o e=>m1 b o (λz=>?_)<|t b o (λz=>nE<|P.symm.trans<|z▸e)<|j.keep _ _<|g.keep _ _ e) J
 exact(rc.mp z).elim (λz=>nE<|P.symm.trans<|z▸e) λz=>nE<|R.symm.trans<|wP.mp z▸g.keep _ _ e
end
section
variable{locs:List (Option Loc)} {st:St}
theorem tY{l}:∀{d c},intsOf l=some d->ah m W l c->IntsAre c d:=by
 induction l with
 |nil=>
  intro _;intro b;induction b with
  |nil=>exact λe _=>bn e▸.nil
  |cons _ _=>exact λ_ q=>q.elim
 |cons _ _ f=>
  intro _;intro a;induction a with
  |nil=>exact λ_ q=>q.elim
  |cons v c=>exact@λe q=>bE e λi k e=>mE e λ_ j g=>by obtain rfl:=PV.cU k;exact(show∃t,v=.int i t from q.1).elim λt h=>h▸g▸.cons i t (f j q.2)
theorem NI:∀{a},intsOf l=some a->l=a.map .int:=by
 induction l with
 |nil=>exact@λ_ e=>bn e▸rfl
 |cons _ _ b=>exact@λ_ e=>bE e λi d e=>mE e λf c e=>e▸congr (congrArg KC<|PV.cU d) (b c)
theorem z9(h:IntsAre a b):ah d W (b.map .int) a:=by
 induction h with
 |nil=>trivial
 |cons n t _ c=>exact⟨⟨t,rfl⟩,c⟩
theorem zu(x)(l):(ins x l).Perm (x::l):=by
 induction l with
 |nil=>exact .refl _
 |cons y l a=>
  show(if x<=y then x::y::l else y::ins x l).Perm _
  split
  .exact .refl _
  .exact((a).cons y).trans<|.swap x y l
theorem By(l):(nI l).Perm l:=by
 induction l with
 |nil=>exact .refl _
 |cons x l a=>exact(zu x _).trans<|(a).cons x
theorem BE(x)(l):l.Pairwise (· <= ·)->(ins x l).Pairwise (· <= ·):=by
 induction l with
 |nil=>intro _;exact .cons (λ_ h=>nomatch h) .nil
 |cons y l b=>
  intro h;rw[Tk]at h;show(if x<=y then x::y::l else y::ins x l).Pairwise _
  split
  .rename_i a;refine Tk.mpr ⟨λz hz=>?_,Tk.mpr h⟩;rcases rc.mp hz with rfl|hz
   .exact a
   .exact rL a<|h.1 z hz
  .rename_i a;refine Tk.mpr ⟨λz hz=>?_,b h.2⟩;rcases rc.mp ((zu x l).mem_iff.mp hz)with rfl|hz
   .omega
   .exact h.1 z hz
theorem xg(l):(nI l).Pairwise (· <= ·):=by
 induction l with
 |nil=>exact .nil
 |cons x l a=>exact BE x _<|a
theorem pK(d:m.Perm l)(c:m.Pairwise (· <= ·)):m=nI l:=List.Perm.eq_of_pairwise (le:=(· <= ·)) (λ_ _ _ _ a b=>Pg a b) c (xg l) (d.trans (By l).symm)
theorem EP.Dc {z} (R:Rel C locs W st.r st.g s.heap) (k:gI s.heap z) (D:s.heap.get? a=none) (F:z.get? a=some (jz u n)) (q:ah C W l u.toList) (E:u.size<=az):EP C locs s W st (.ml none l) (.ref a) {s with heap:=z,toks:=tk}:=⟨W,eM.grow R k,⟨rfl,_,rfl,R.bA D,u,n,F,E,q⟩,λ_ a e=>by cases e;exact D⟩
theorem A4(R:Rel a locs W st.r st.g s.heap)(m:s.heap.IsList l b)(f:IntsAre b.toList d)(p:d.length<64):wpAny (model a.prog a.w) A (call (.builtin "sorted") [.ref l]) (EP a locs s W st<|.ml none<|(nI d).map .int) No s:=by
 refine sorted_ints (vs:=b.toList) (m) f (by have:=f.length;omega) λc j i h t=>?_
 obtain⟨e,n⟩:=sortedAll_at s.heap b.toList c;have k:s.heap.get? (s.heap.objs.size+1)=none:=by
  induction q:s.heap.get? (s.heap.objs.size+1)with
  |none=>rfl
  |some o=>exact absurd (gQ q)<|iF.mpr<|Tm _
 refine(pK h t)▸?_;refine EP.Dc (s:=s) (tk:=s.toks) R ⟨λ_ _=>sortedAll_old⟩ k n (z9 i) ?_;have:=i.length;have:=h.length_eq;simp at*;delta az;omega
theorem A5(R:Rel l locs W st.r st.g s.heap)(S:A.handled=none)(U:d≠sysModules)(P:s.heap.DictOf (intKind l.prog l.w) d p)(H:p.map (·.1)=a)(V:a.length<64):wpAny (model l.prog l.w) A (call (.builtin "sorted") [.ref d]) (EP l locs s W st<|.ml none<|(nI a).map .int) No s:=by
 have Q:p.length=a.length:=by rw[<-H];simp
 refine Calls.call_function_entry kind_sorted plain_sorted entry_sorted (args_sorted1 _) ?_;refine dL (m:=checkCount "sorted" 1 1 _)<|wpAny_pure ?_
 refine dL<|xE S (by simpa using U) P (by rw[qi];omega) λz tk c i y=>?_
 have f:IntsAre c.toList a:=by
  refine AH y λM L=>?_;have C:∀(vs:List Value)(a:List Int),vs.length=a.length->(∀(j:Nat)(v:Value),vs[j]?=some v->∃k,a[j]?=some k/\∃t,v=.int k t)->IntsAre vs a:=by
   intro vs;induction vs with
   |nil=>intro a e _;induction a with
    |nil=>exact .nil
    |cons _ _=>simp at e
   |cons v vs O=>
    intro a e F;cases a with
    |nil=>simp at e
    |cons n a=>obtain⟨k,i,t,rfl⟩:=F 0 v rfl;replace i:=sJ i;subst i;exact .cons n t<|O a (by simpa using e) λj v D=>F (j+1) v D
  refine C _ _ (by simp[M,Q]) λj v D=>?_
  refine nF (L j v (by simpa using D)) λk x Y X=>?_
  refine⟨k,by rw[<-H];simp[Y],qj X⟩
 refine dL<|wpAny_newList ?_ (by have:=f.length;rw[qi];omega)
 have h:(z.push<|seqObj "list" c.toList.toArray 0).get? z.objs.size=some (seqObj "list" c.toList.toArray 0):=On _ rfl
 refine dL<|cG<|ja (s:={s with heap:=z.push<|seqObj "list" c.toList.toArray 0,toks:=tk}) slot_list_sort ⟨_,h,rfl⟩ entry_list_sort (list_sort_tree h f (by have:=f.length;omega) λout N J I Z=>⟨_,rfl,?_⟩)<|args_list_sort _
 refine wpAny_pure ⟨_,rfl,?_⟩;obtain⟨e,T⟩:=sortedHeap_at (vs:=c.toList) (out:=out) h;refine(pK I Z)▸?_;refine EP.Dc (s:=s) (tk:=tk) R ⟨λb o q=>?_⟩ ?_ T (z9 J) ?_
 .have E:=i b o q;have u:=gQ E;exact(sortedHeap_old (bF u) (by rw[vf];exact kF u)).trans<|bf _ E
 .induction q:s.heap.get? z.objs.size with
  |none=>rfl
  |some o=>exact absurd (gQ<|i _ _ q)<|Ul _
 .have:=J.length;have:=I.length_eq;simp at*;delta az;omega
theorem MV(l):∀(m),m<=nj m l/\(∀a∈l,a<=nj m l)/\(nj m l=m\/nj m l∈l):=by
 induction l with
 |nil=>intro m;exact⟨nU _,(λ_ h=>nomatch h),.inl rfl⟩
 |cons x l d=>
  intro m;refine Ao (d (if m<x then x else m)) λc e h3=>?_
  have b:m<=(if m<x then x else m)/\x<=(if m<x then x else m):=by split<;>omega
  change _/\_/\(nj (if m<x then x else m) l=m\/nj (if m<x then x else m) l∈x::l)
  refine⟨rL b.1 c,λa ha=>?_,?_⟩
  .rcases rc.mp ha with rfl|ha
   .exact rL b.2 c
   .exact e a ha
  .rcases h3 with h3|h3
   .rw[h3];split
    .right;exact gv
    .left;rfl
   .right;exact cD _ h3
theorem MS(R:Rel k locs W st.r st.g s.heap)(I:A.handled=none)(u:s.heap.IsList l p)(x:IntsAre p.toList (n::c)):wpAny (model k.prog k.w) A (call (.builtin "max") [.ref l]) (EP k locs s W st<|.v<|.int<|nj n c) No s:=by
 refine fN x.allInts.items λb e=>?_;have d:n::c=b.toList.map (·.1):=by rw[<-x.numsOf,<-nums_intItems,<-e]
 have o:0<b.size:=by
  have z:0<(n::c).length:=by simp
  rw[d,im,i6]at z;exact z
 have L:p=intItems b:=e;rw[L]at u;refine max_intList I u o λv N tk E F=>?_;obtain⟨t,rfl⟩:=intItems_at E;obtain⟨M,J⟩:=argBest_gt (numAt b)<|b.size - 1
 have f:numAt b (argBest (λi j=>decide<|numAt b i>numAt b j)<|b.size - 1)∈n::c:=by rw[d,numAt_eq];exact getD_mem (by rw[im,i6];omega)
 have h:∀a∈n::c,a<=numAt b (argBest (λi j=>decide<|numAt b i>numAt b j)<|b.size - 1):=λa y=>by rw[d]at y;refine aO (mem_getD y) λj H m=>?_;subst m;rw[im,i6]at H;rw[<-numAt_eq];exact J j (by omega)
 refine Ao (MV c n) λD C m3=>?_;have:nj n c=numAt b (argBest (λi j=>decide<|numAt b i>numAt b j)<|b.size - 1):=by
  apply Pg
  .rcases m3 with m3|m3
   .rw[m3];exact h n gv
   .exact h _<|cD _ m3
  .rcases rc.mp f with q|q
   .rw[q];exact D
   .exact C _ q
 refine⟨W,eM.grow (tk:=tk) R ⟨F⟩,show aA _ _ _ _ from ?_,λq=>ff q⟩;exact⟨t,by rw[this]⟩
end
section
variable{locs:List (Option Loc)} {A:dA} {W:Gh} {s:Shared} {r:List (Option RV)} {g:List GO} {st:St}
theorem v8:∀{k}{i:Nat}{b},boolsOf l=some k->k[i]?=some b->∃p,l[i]?=some p/\p.JZ=some b:=by
 induction l with
 |nil=>intro _ _ _ e q;obtain rfl:=bn e;exact nE q
 |cons x _ m=>
  intro _;intro a;induction a with
  |zero=>exact@λ_ e q=>bE e λc j e=>mE e λn f d=>by subst d;exact⟨x,rfl,j.trans q⟩
  |succ _=>exact@λ_ e q=>bE e λc j e=>mE e λn f d=>by subst d;have h:=m f<|show _[_]?=_ from q;exact h
theorem v7:∀{a},boolsOf l=some a->a.length=l.length:=by
 induction l with
 |nil=>exact@λ_ e=>bn e▸rfl
 |cons _ _ b=>exact@λ_ e=>bE e λc f e=>mE e λh d e=>e▸congrArg dO (b d)
theorem vh(R:Rel a locs W r g s.heap)(f:aA a W p v)(e:p.JZ=some b):wpAny (model a.prog a.w) A (truthy v) (λc d=>c=b/\jm s d) No s:=by
 refine lS R (rv:=.v p) f ?_;cases p with
 |bool=>exact e
 |tup=>exact e
 |_=>exact nE e
theorem TY{I N y l D}(R:Rel E locs W r g s.heap)(hh:A.handled=none)(T:s.heap.get? I=none)(P:s.heap.IsList N y)(q:ah E W l y.toList)(e:boolsOf l=some D):∀(k i)(h)(j),i+k=D.length->(∀b o,s.heap.get? b=some o->h.get? b=some o)->h.IsListIter I N i->codeAny (model E.prog E.w) A (.builtin "all.loop" ⟨[.ref I],[]⟩) (λr J=>r=.ok (.ret<|.bool<|(D.drop i).all id)/\∃f H,J={s with heap:=f,toks:=H}/\∀b o,s.heap.get? b=some o->f.get? b=some o) {s with heap:=h,toks:=j}:=by
 intro k;induction k with
 |zero=>
  intro i h j C a m;have u:=C;refine gP F.entry_all_loop ?_;refine(dz F.plain_all_loop _)▸?_;have M:h.IsList N y:=by refine aO P λo L z=>?_;exact⟨o,a _ _ L,z⟩
  refine dL<|i4 (s:={s with heap:=h,toks:=j}) hh m M (yl<|(by have:=q.length;exact this:l.length=y.size)▸(v7 e)▸EQ u.symm) λf he=>?_
  refine dL<|i9<|wpAny_pure ⟨?_,f,j,rfl,λb o z=>he b o (by rintro rfl;replace z:=T▸z;exact nE z)<|a b o z⟩
  subst u;simp
 |succ k ih=>
  intro i h j C a m;have n:=C▸gK (wv _);refine aO (v8 e<|At n) λp e1 e2=>?_
  refine aO (q.get e1) λv e3 e4=>?_;have Q:=wq n;refine gP F.entry_all_loop ?_;rw[dz F.plain_all_loop _];refine dL<|iD (s:={s with heap:=h,toks:=j}) m (by refine aO P λo L z=>?_;exact⟨o,a _ _ L,z⟩) (x:=v) (by refine UV▸?_;exact e3) λf t hs=>?_
  have d:∀b o,s.heap.get? b=some o->f.get? b=some o:=λb o z=>(hs.2 b (by rintro rfl;replace z:=T▸z;exact nE z)).trans<|a b o z
  refine dL<|cG<|o0 (vh (s:={s with heap:=f,toks:=j}) (R.grow ⟨d⟩) e4 e2) (λc J⟨Z,O,Y⟩=>?_) λ_ _ z=>z.elim
  subst Z Y;refine dL<|wpAny_letGo ?_
  induction S:D[i]with
  |true=>refine nY rfl ?_;refine wpAny_pure ⟨jn F.plain_all_loop _,bw (ih (i+1) f O ((UO i k).trans C) d t) λr J X=>AH X λV U=>⟨?_,U⟩⟩;rw[V,Q,QP,S];rfl
  |false=>
   refine iG xz ?_;refine dL<|i9<|wpAny_pure ⟨?_,f,O,rfl,d⟩
   rw[Q,QP,S];rfl
theorem TU{I N y l D}(R:Rel E locs W r g s.heap)(hh:A.handled=none)(T:s.heap.get? I=none)(P:s.heap.IsList N y)(q:ah E W l y.toList)(e:boolsOf l=some D):∀(k i)(h)(j),i+k=D.length->(∀b o,s.heap.get? b=some o->h.get? b=some o)->h.IsListIter I N i->codeAny (model E.prog E.w) A (.builtin "any.loop" ⟨[.ref I],[]⟩) (λr J=>r=.ok (.ret<|.bool<|(D.drop i).any id)/\∃f H,J={s with heap:=f,toks:=H}/\∀b o,s.heap.get? b=some o->f.get? b=some o) {s with heap:=h,toks:=j}:=by
 intro k;induction k with
 |zero=>
  intro i h j C a m;have u:=C;refine gP F.entry_any_loop ?_;refine(dz F.plain_any_loop _)▸?_;have M:h.IsList N y:=by refine aO P λo L z=>?_;exact⟨o,a _ _ L,z⟩
  refine dL<|i4 (s:={s with heap:=h,toks:=j}) hh m M (yl<|(by have:=q.length;exact this:l.length=y.size)▸(v7 e)▸EQ u.symm) λf he=>?_
  refine dL<|i9<|wpAny_pure ⟨?_,f,j,rfl,λb o z=>he b o (by rintro rfl;replace z:=T▸z;exact nE z)<|a b o z⟩
  subst u;simp
 |succ k ih=>
  intro i h j C a m;have n:=C▸gK (wv _);refine aO (v8 e<|At n) λp e1 e2=>?_
  refine aO (q.get e1) λv e3 e4=>?_;have Q:=wq n;refine gP F.entry_any_loop ?_;rw[dz F.plain_any_loop _];refine dL<|iD (s:={s with heap:=h,toks:=j}) m (by refine aO P λo L z=>?_;exact⟨o,a _ _ L,z⟩) (x:=v) (by refine UV▸?_;exact e3) λf t hs=>?_
  have d:∀b o,s.heap.get? b=some o->f.get? b=some o:=λb o z=>(hs.2 b (by rintro rfl;replace z:=T▸z;exact nE z)).trans<|a b o z
  refine dL<|cG<|o0 (vh (s:={s with heap:=f,toks:=j}) (R.grow ⟨d⟩) e4 e2) (λc J⟨Z,O,Y⟩=>?_) λ_ _ z=>z.elim
  subst Z Y;refine dL<|wpAny_letGo ?_
  induction S:D[i]with
  |false=>refine iG xz ?_;refine wpAny_pure ⟨jn F.plain_any_loop _,bw (ih (i+1) f O ((UO i k).trans C) d t) λr J X=>AH X λV U=>⟨?_,U⟩⟩;rw[V,Q,oQ,S];rfl
  |true=>
   refine nY rfl ?_;refine dL<|i9<|wpAny_pure ⟨?_,f,O,rfl,d⟩
   rw[Q,oQ,S];rfl
theorem j7(h:Heap):h.get? h.objs.size=none:=(gI.rfl (h:=h)).bA
theorem O1(R:Rel a locs W st.r st.g s.heap)(i:A.handled=none)(c:s.heap.IsList n f)(q:ah a W l f.toList)(e:boolsOf l=some d):wpAny (model a.prog a.w) A (call (.builtin "all") [.ref n]) (EP a locs s W st<|.v<|.bool<|d.all id) No s:=by
 refine QL F.kind_all F.plain_all F.entry_all (F.args_all1 _) ?_;refine dL (m:=oneArg "all" _)<|wpAny_pure ?_
 refine dL<|lG c ?_
 refine wpAny_pure ⟨jn F.plain_all_loop _,bw (TY (A:=A) R i (j7 s.heap) c q e d.length 0 _ s.toks (ss _) (λb o z=>bf _ z) ⟨_,On _ rfl,rfl,rfl⟩) ?_⟩;rintro r p ⟨rfl,j,h,rfl,k⟩;exact⟨W,eM.grow R ⟨k⟩,rfl,λq=>ff q⟩
theorem OZ(R:Rel a locs W st.r st.g s.heap)(i:A.handled=none)(c:s.heap.IsList n f)(q:ah a W l f.toList)(e:boolsOf l=some d):wpAny (model a.prog a.w) A (call (.builtin "any") [.ref n]) (EP a locs s W st<|.v<|.bool<|d.any id) No s:=by
 refine QL F.kind_any F.plain_any F.entry_any (F.args_any1 _) ?_;refine dL (m:=oneArg "any" _)<|wpAny_pure ?_
 refine dL<|lG c ?_
 refine wpAny_pure ⟨jn F.plain_any_loop _,bw (TU (A:=A) R i (j7 s.heap) c q e d.length 0 _ s.toks (ss _) (λb o z=>bf _ z) ⟨_,On _ rfl,rfl,rfl⟩) ?_⟩;rintro r p ⟨rfl,j,h,rfl,k⟩;exact⟨W,eM.grow R ⟨k⟩,rfl,λq=>ff q⟩
theorem pB(R:Rel Z locs W r g h)(c:ez Z W h x a)(e:E9 g x=some l):∃d b n,iL (Z:=Z) W h false l a d b n:=iE e λh e=>h▸d6 R c e
theorem MX{i a d}(D:rX (Z:=Z) W h i a x ks):ji x=false->intsOf ks=some d->∃b:List (Int×Value),h.DictOf (intKind Z.prog Z.w) a b/\b.map (·.1)=d:=by
 induction D with
 |int k c l j=>exact λ_ e=>⟨_,c,(Ga (f:=PV.int) λ_ _ h=>PV.int.inj h).mp<|(bD ..).trans<|NI e⟩
 |str k c l j=>
  rename_i b;induction b with
  |nil=>exact λ_ e=>⟨[],mw c,bn e⟩
  |cons z b=>exact λ_ e=>bE e λ_ e _=>nE e
 |row=>exact λm=>ff m.symm
theorem Nc(R:Rel f locs W st.r st.g s.heap)(p:ez f W s.heap x a)(e:(match cA st.g x with|some l=>some l|none=>(mapR st.g x).map Pv)=some l):wpAny (model f.prog f.w) A (call (pU .len) [a]) (EP f locs s W st<|.v<|.int l.length) No s:=by
 induction q:cA st.g x with
 |some m=>
  replace e:=q▸e;obtain rfl:=sJ e;refine uQ (d6 R p q) λE o m V=>?_;have F:=V.fit;obtain rfl:=V.e;induction t:isTup x with
  |true=>exact P.len_tuple (n:=m) (t▸V:iL W s.heap true _ _ _ o m).ho (by omega)<|EP.val R (show aA _ _ _ _ from⟨_,by rw[V.len]⟩) ⟨_,rfl⟩
  |false=>exact call_len_list (t▸V:iL W s.heap false _ _ _ o m).tL V.fit<|EP.val R (show aA _ _ _ _ from⟨_,by rw[V.len]⟩) ⟨_,rfl⟩
 |none=>
  replace e:=q▸e;refine mE e λd e z=>iE e λy C=>?_;subst z;refine eV (iq R p (ks:=d.1) (vs:=d.2) C) λE i u D=>?_;subst i;have c:=beq_false_of_ne u;have b:∀{n:Nat},n<=az->(n:Int)<2^63:=λh=>by delta az at h;omega
  generalize d.1=ks at D;induction D with
  |int _ k j=>exact call_len_dict c k (b j)<|EP.val R (show aA _ _ _ _ from⟨s.toks+1,by rw[im]⟩) ⟨_,rfl⟩
  |str _ k j=>exact call_len_dict c k (b j)<|EP.val R (show aA _ _ _ _ from⟨s.toks+1,by rw[im]⟩) ⟨_,rfl⟩
  |row=>exact ff y.symm
theorem A3(R:Rel c locs W st.r st.g s.heap)(o:A.handled=none)(i:ez c W s.heap x a)(e:(match cA st.g x with|some _=>E9 st.g x|none=>(mapR st.g x).map Pv)=some l) (j:intsOf l=some h) (b:h.length<64):wpAny (model c.prog c.w) A (call (pU .sorted) [a]) (EP c locs s W st<|.ml none<|(nI h).map .int) No s:=by
 induction q:cA st.g x with
 |some m=>replace e:=q▸e;refine uQ (pB R i e) λv y m V=>?_;obtain rfl:=V.e;exact A4 R V.tL (tY j V.rel) b
 |none=>replace e:=q▸e;refine mE e λd e u=>iE e λp t=>?_;subst u;refine eV (iq R i (ks:=d.1) (vs:=d.2) t) λv f n D=>?_;subst f;exact(MX D p j).elim λk z=>A5 R o n z.1 z.2 b
theorem ES(R:Rel b locs W st.r st.g s.heap)(f:ez b W s.heap x a)(e:x.int?=some i)(h:i<2^20):wpAny (model b.prog b.w) A (call (pU .range) [a]) (EP b locs s W st<|.v<|.iH i) No s:=by
 obtain rfl:=RV.cU e;obtain⟨t,rfl⟩:=(f:∃t,a=.int i t);have c:=j7 s.heap;have d:=R.bA c;refine call_range_1 ⟨_,⟨⟨_,_,rfl⟩,Ext.fresh d c,.kT (.push _ _),(R.grow (.push _ {cls:=.type "range",data:=.fields #[.int 0 s.toks,.int i t,.int 1 (s.toks+1)]})).fresh d (On _ rfl)⟩,
  show aA _ _ _ _ from ?_,λq=>ff q⟩
 exact⟨_,_,_,_,rfl,h,Gh.aG ..⟩
theorem Ez(R:Rel b locs W st.r st.g s.heap)(c:ez b W s.heap x a)(d:cA st.g x=some l):wpAny (model b.prog b.w) A (call (pU .tuple) [a]) (EP b locs s W st<|.v<|.tup l) No s:=by
 refine uQ (d6 R c d) λi f m V=>?_;obtain rfl:=V.e;induction t:isTup x with
 |true=>replace V:=t▸V;exact call_tuple_tup V.tupI<|EP.val R (show ez b W s.heap (.v<|.tup l) _ from oZ d t▸c) .iX
 |false=>replace V:=t▸V;exact call_tuple_list V.tL (λh k=>EP.w0 (s:=s) (tk:=s.toks) R ⟨k⟩ V.rel V.sz)<|cK V.sz
theorem F0(R:Rel j locs W st.r st.g s.heap)(k:A.handled=none)(f:ez j W s.heap x a)(e:uK st.g b x=some y):wpAny (model j.prog j.w) A (call (pU b) [a]) (EP j locs s W st y) No s:=by
 induction b with
 |len=>exact mE e λl c d=>d▸Nc R f c
 |range=>exact bE e λi c e=>iE e λt d=>bn d▸ES R f c t
 |sorted=>exact bE e λl c e=>bE e λo d e=>iE e λp h=>bn h▸A3 R k f c d p
 |tuple=>exact mE e λl c d=>d▸Ez R f c
 |all=>exact mE e λu c d=>bE c λl c h=>have⟨_,q,m,V⟩:=pB R f c;V.e▸d▸O1 R k V.tL V.rel h
 |any=>exact mE e λu c d=>bE c λl c h=>have⟨_,q,m,V⟩:=pB R f c;V.e▸d▸OZ R k V.tL V.rel h
 |max=>
  exact bE e λo c d=>bE c λl c h=>have⟨_,q,m,V⟩:=pB R f c;by
   induction o with
   |nil=>exact nE d
   |cons n o=>exact V.e▸bn d▸MS R k V.tL (tY h V.rel)
end
section
variable{Z:Cx} {locs:List (Option Loc)} {W:Gh} {h:Heap} {g:List GO} {st:St}
def O6(Z:Cx)(W:Gh)(h:Heap)(a:Addr):RV->Prop
 |.v _=>False
 |.ml _ l=>ey Z W h a<|.ml none l
 |.md _ ks b=>mJ Z W h 0 a<|.dict ks b
noncomputable def Xl:RV->GO
 |.v _=>.list []
 |.ml _ l=>.list l
 |.md _ ks a=>.dict ks a
theorem O6.rel (x:O6 Z W h a q):mJ Z W h n a (Xl q):=by
 induction q with
 |v=>exact x.elim
 |ml=>exact x
 |md=>exact x
theorem Rel.V5 (R:Rel Z locs W r g h) (P:W.F[n]?=some a) (Q:n<g.length)(u:∀b ob,b≠a->h.get? b=some ob->E.get? b=some ob) (H:∃ob,E.get? a=some ob) (c:mJ Z W E n a V):Rel Z locs W r (g.set n V) E/\dN W h E:=by
 refine eV (R.gl.at_ n g[n]<|At Q) λX S F _=>?_
 replace F:W.O a=some (.gl n):=sJ (S.symm.trans P)▸F;have D:∀{b:Addr}{t:cL},W.O b=some t->t≠.gl n->∀{o:Obj},h.get? b=some o->E.get? b=some o:=λ{b t} e q{o}=>u b o λz=>q<|sJ<|e.symm.trans<|(congrArg W.O z).trans F
 have L:dN W h E:=⟨λb o e z=>u b o (λq=>nE<|z.symm.trans<|(congrArg W.O q).trans F) e,λb o e z=>D z nofun e,λb o i e z=>D z nofun e⟩
 refine⟨⟨λb t e=>?_,λb o e=>D e nofun (R.fz b o e),R.base,⟨R.gl.len.trans aU.symm,λm M e=>?_⟩,R.len,λi C e=>(R.lo i C e).keep L .rfl,R.ap,λi O e=>?_⟩,L⟩
 .by_cases q:b=a
  .exact q▸H
  .exact(R.sz b t e).imp λo U=>u b o q U
 .by_cases q:n=m
  .subst q;exact sJ ((T0 Q).symm.trans e)▸⟨a,P,F,c⟩
  .exact eV (R.gl.at_ m M<|(aP q).symm.trans e) λb J I N=>⟨b,J,I,N.at_ .rfl λo z=>D I (λz=>q (cL.gl.inj z).symm) z⟩
 .exact ju (R.sl i O e) λC v J I N=>⟨C,v,J,I.keep (R.lo i C J) L,N.at_ .rfl λb o z e=>⟨z,(dY i O).elim (λh=>D (z.trans<|congrArg some h) nofun e) λh=>D (z.trans<|congrArg some h) nofun e⟩⟩
theorem Rel.ZS (R:Rel Z locs W r g h) (hi:r[i]?=some (some I)) (U:locs[i]?=some (some u)) (Y:bP h u (.ref a)) (Q:W.O a=some (bV i I)) (d:D.tag=I.tag)(C:∀b ob,b≠a->h.get? b=some ob->F.get? b=some ob) (L:∃ob,F.get? a=some ob) (c:ey Z W F a D):Rel Z locs W (r.set i<|some D) g F/\dN W h F:=by
 have J:∀{b:Addr}{t:cL},W.O b=some t->t≠bV i I->∀{o:Obj},h.get? b=some o->F.get? b=some o:=λ{b t} e q{o}=>C b o λz=>q<|sJ<|e.symm.trans<|(congrArg W.O z).trans Q
 have M:∀{t:cL},(∀j,t≠.mu j)->(∀j,t≠.le j)->t≠bV i I:=λ{t} X V q=>(dY i I).elim (λh=>X i<|q.trans h) λh=>V i<|q.trans h
 have N:dN W h F:=⟨λb o e z=>C b o (λq=>nE<|z.symm.trans<|(congrArg W.O q).trans Q) e,λb o e z=>J z (M nofun nofun) e,λb o i e z=>J z (M nofun nofun) e⟩
 refine⟨⟨λb t e=>?_,λb o e=>J e (M nofun nofun)<|R.fz b o e,R.base,⟨R.gl.len,λm go e=>?_⟩,R.len.trans aU.symm,λi u e=>(R.lo i u e).keep N .rfl,R.ap,λj H e=>?_⟩,N⟩
 .by_cases q:b=a
  .exact q▸L
  .exact(R.sz b t e).imp λo ho=>C b o q ho
 .exact eV (R.gl.at_ m go e) λb P O S=>⟨b,P,O,S.at_ .rfl λo z=>J O (M nofun nofun) z⟩
 .by_cases q:i=j
  .subst q;refine sJ (sJ<|(T0<|(ty.mp hi).1).symm.trans e)▸⟨u,_,U,Y.keep (R.lo i u U) N,?_⟩
   have z:W.O a=some (bV i D):=Q.trans (by delta bV;exact d▸rfl)
   induction D with
   |v=>exact c.elim
   |ml=>exact⟨a,rfl,z,c⟩
   |md=>exact⟨a,rfl,z,c⟩
  .exact ju (R.sl j H<|(aP q).symm.trans e) λE v P O S=>⟨E,v,P,O.keep (R.lo j E P) N,S.at_ .rfl λb o z e=>⟨z,J z (λz=>q<|CB z) e⟩⟩
inductive StI(o:Op)(st:St)(x:RV):RV->St->Prop
 |aZ {n:Nat} {go:GO} (h:x.go?=some go):StI o st x (.v<|.aZ n) {st with g:=st.g.set n go}
 |own {i:Nat} {m:RV} (h:o=.pl i) (e:st.get i=some m) (a:m.val?=none):StI o st x m (st.put i<|some<|x.gR m.tag)
theorem vj(e:o.aD st=some rv)(a:o.store st x=some b):StI o st x rv b:=by
 rw[Op.store,e]at a;change Op.AW st x o rv=some b at a;delta Op.AW at a;induction z:rv.val? with
 |some p=>rw[z]at a;exact bE a λn d a=>mE a λf c q=>RV.lP z▸PV.Jf d▸q▸.aZ c
 |none=>
  rw[z]at a;induction o with
  |rv=>exact nE a
  |pl i=>exact sE a<|.own rfl e z
theorem hX.store (I:hX Z locs W h o (.ref a)) (R:Rel Z locs W st.r st.g h) (e:o.aD st=some rv) (Y:o.store st q=some C)(z:∀b ob,b≠a->h.get? b=some ob->h'.get? b=some ob) (u:∃ob,h'.get? a=some ob)(c:if ji rv then O6 Z W h' a q else ey Z W h' a q):Rel Z locs W C.r C.g h'/\dN W h h':=by
 cases vj e Y with
 | @aZ n X D=>
  have H:aA Z W (.aZ n) (.ref a):=by
   induction o with
   |rv x=>obtain rfl:=sJ e;exact I
   |pl i=>exact eV I λJ F E Q=>R.Us F (get_slot e) E
  refine aO H λb O e2=>?_;obtain rfl:=eK e2;have L:X=Xl q:=by induction q with
   |v=>exact nE D
   |ml=>exact(bn D).symm
   |md=>exact(bn D).symm
  subst L;exact Rel.V5 R O (by refine R.gl.len▸?_;exact(ty.mp O).1) z u c.rel
 | @own i m U e' H=>
  subst U;refine eV I λJ F E Q=>?_;have N:=get_slot e';have M:=R.Us F N E;have V:∃b,xU a=.ref b/\W.O b=some (bV i rv)/\ey Z W h b rv:=by induction rv with
   |v=>exact nE H.symm
   |ml=>exact M
   |md=>exact M
  refine eV V λb d P _=>?_;obtain rfl:=eK d;have D:ji rv=false:=by induction rv with
   |v=>exact nE H.symm
   |ml=>rfl
   |md=>rfl
  replace c:=D▸c;have S:(q.gR rv.tag).tag=rv.tag:=by induction q with
   |v=>exact c.elim
   |ml=>rfl
   |md=>rfl
  exact Rel.ZS R N F E P S z u c.gR
end
section
variable{locs:List (Option Loc)} {s:Shared} {st:St}
theorem i7{o:Op}(e:o.aD st=some a)(d:o.store st x=some b):isTup a=false:=by
 cases vj e d with
 |aZ=>rfl
 |own _ _ c=>induction a with
  |v=>exact nE c.symm
  |_=>rfl
theorem j8(R:Rel Z locs W st.r st.g s.heap)(i:hX Z locs W s.heap o v)(e:o.aD st=some y)(u:o.store st (.ml none j)=some h) (V:iL (Z:=Z) W s.heap false l v a d n) (f) (p:ah Z W j (f d).toList) (m:(f d).size<=az):eM Z locs s W h {s with heap:=s.heap.update a<|dX f,toks:=tk} W:=by
 obtain rfl:=V.e;have t:IsL s.heap a d n:=V.ho;have c:=t.update f;obtain⟨x,k⟩:=i.store R e u (h':=s.heap.update a<|dX f) (λb ob q w=>(Heap.get?_update_other _ _<|oM q).trans w) ⟨_,c⟩ (by split<;>exact(⟨_,_,c,m,p⟩))
 exact⟨⟨_,_,rfl⟩,.rfl,k,x⟩
theorem qP(R:Rel Z locs W st.r st.g s.heap)(d:hX Z locs W s.heap o (.ref a))(i:o.aD st=some c)(h:cA st.g c=some l)(f:isTup c=false):∃b n,iL (Z:=Z) W s.heap false l (.ref a) a b n:=by refine uQ (d6 R (d.wD R i) h) λj b n V=>?_;cases V.e;exact⟨b,n,f▸V⟩
theorem zL{a:Array Value}(h:j<a.size):(a.eraseIdxIfInBounds j).toList=a.toList.eraseIdx j:=by simp[wu,h]
theorem uf{a:Array Value}(h:a.size<=az):(a.eraseIdxIfInBounds j).size<=az:=by
 delta wu;split
 .rw[Array.size_eraseIdx];exact am (lL _ _) h
 .exact h
theorem Aa(R:Rel f locs W st.r st.g s.heap)(m:hX f locs W s.heap o (.ref a))(k:o.aD st=some c)(v:aA f W x u)(e:K2 st o c .append [x]=some (y,d))(X:eM f locs h i st s W):∃b n,b.size<=sizeLine/\IsL s.heap a b n/\EP f locs h i d y .none {s with heap:=s.heap.update a (dX λj=>j.push u)}:=bE e λl w e=>iE e λz e=>mE e λt p q=>jF (qP R m k w<|i7 k p) λj n V=>⟨j,n,cK V.sz,V.ho,EP.then X (pE (D:=λy d=>EP f locs s W d y .none _) q ⟨W,j8 (tk:=s.toks) R m k p V _ (by simpa using V.rel.append (.one v)) (by have:=V.len;simp;omega),rfl,λq=>ff q⟩)⟩
theorem zG(R:Rel j locs W st.r st.g s.heap)(D:hX j locs W s.heap o (.ref a))(A:o.aD st=some c)(L:aA j W x u)(e:K2 st o c .extend [x]=some (y,v))(X:eM j locs k p st s W):∃b f d n z,f.size<=sizeLine/\f.size+d.size<=sizeLine+1/\¬(!f.isEmpty&&Yw (f.size+d.size))=true/\u=.ref b/\IsL s.heap a f n/\IsL s.heap b d z/\EP j locs k p v y .none {s with heap:=s.heap.update a (dX λh=>h++d)}:=by
 refine bE e λm E e=>bE e λl M e=>iE e λP e=>mE e λH F I=>?_;obtain rfl:=PV.Sh E;refine jF (qP R D A M<|i7 A F) λh n V=>?_
 have O:=V.len;obtain⟨b,t,z,J,w,N,C⟩:∃a h n,u=.ref a/\W.O a=some (.fz (jz h n))/\h.size<=az/\ah j W m h.toList:=L;have E:m.length=t.size:=by have:=C.length;exact this
 have i:h.size+t.size<=az:=by omega
 cases I;exact⟨b,h,t,n,z,cK V.sz,Ku<|cK i,extend_door<|cK i,J,V.ho,R.fz _ _ w,EP.then X ⟨W,j8 (tk:=s.toks) R D A F V _ (by simpa using V.rel.append C) (by simpa using i),rfl,λq=>ff q⟩⟩
theorem wQ(R:Rel h locs W st.r st.g s.heap)(m:hX h locs W s.heap o (.ref a))(k:o.aD st=some c)(e:K2 st o c .reverse []=some (y,j))(X:eM h locs d f st s W):∃b n,b.size<=sizeLine/\IsL s.heap a b n/\EP h locs d f j y .none {s with heap:=s.heap.update a (dX λi=>i.reverse)}:=by
 refine bE e λl u e=>mE e λt p q=>?_;refine jF (qP R m k u<|i7 k p) λi n V=>?_
 obtain⟨rfl,rfl⟩:=pJ q;exact⟨i,n,cK V.sz,V.ho,EP.then X ⟨W,j8 (tk:=s.toks) R m k p V _ (by simpa using V.rel.reverse) (by simpa using V.sz),rfl,λq=>ff q⟩⟩
theorem HI(R:Rel j locs W st.r st.g s.heap)(t:hX j locs W s.heap o (.ref a))(p:o.aD st=some c)(e:K2 st o c .pop []=some (y,k))(X:eM j locs f i st s W):∃b n z,b.size<=sizeLine/\IsL s.heap a b n/\b[b.size - 1]?=some z/\EP j locs f i k y z {s with heap:=s.heap.update a (dX λd=>d.eraseIdxIfInBounds<|b.size - 1)}:=by
 refine bE e λl D e=>bE e λx v e=>mE e λC u q=>?_;refine jF (qP R t p D<|i7 p u) λd n V=>?_
 have m:=V.len;have h:d.size - 1<d.size:=by
  refine m▸?_;induction l with
  |nil=>exact nE v
  |cons=>exact Ix _
 refine aO (V.rel.get (by refine m▸List.getLast?_eq_getElem?▸?_;exact v:l[d.size - 1]?=some x)) λz A w=>?_
 obtain⟨rfl,rfl⟩:=pJ q;exact⟨d,n,z,cK V.sz,V.ho,by refine UV▸?_;exact A,EP.then X ⟨W,j8 (tk:=s.toks) R t p u V _ (by rw[(by rw[<-m,List.eraseIdx_length_sub_one]:l.dropLast=l.eraseIdx (d.size - 1)),zL h];exact V.rel.eraseIdx _)<|uf V.sz,w,λq=>ff q⟩⟩
theorem Mg(d:a≠[])(e:K2 st o c .pop a=some z):∃x,a=[x]:=by
 have e:(if a=[]then(cA st.g c).bind λl=>(l.getLast?).bind λx=>(o.store st (.ml none l.dropLast)).map λb=>(RV.v x,b) else(oneOf a).bind λx=>x.int?.bind λi=>(cA st.g c).bind λl=>(idx l i).bind λn=>(l[n]?).bind λx=>(o.store st (.ml none (l.eraseIdx n))).map λb=>(RV.v x,b))=some z:=e
 rw[if_neg d]at e;exact bE e λx h _=>⟨x,fP h⟩
theorem Bc(R:Rel h locs W st.r st.g s.heap)(w:hX h locs W s.heap o (.ref a))(v:o.aD st=some c)(H:aA h W x u)(e:K2 st o c .pop [x]=some (y,m))(X:eM h locs d f st s W):∃b n i t j z,b.size<=sizeLine/\u=.int i t/\IsL s.heap a b n/\Yy i=true/\seqIndex? i b.size=some j/\b[j]?=some z/\EP h locs d f m y z {s with heap:=s.heap.update a (dX λk=>k.eraseIdxIfInBounds j)}:=by
 refine bE e λi I e=>bE e λl Q e=>bE e λj O e=>bE e λp P e=>mE e λE A F=>?_;obtain rfl:=PV.cU I;refine jF (qP R w v Q<|i7 v A) λk n V=>?_
 obtain⟨t,rfl⟩:∃t,u=.int i t:=H;refine YA (t5 V.len O V.sz) λN M L J _=>?_;refine aO (V.rel.get P) λz D C=>?_;cases F;exact⟨k,n,i,t,j,z,cK V.sz,rfl,V.ho,(Int.lt_or_le i 0).elim (λq=>fitsIndex_neg q L) (λq=>fitsIndex_of q J),M,by refine UV▸?_;exact D,EP.then X ⟨W,j8 (tk:=s.toks) R w v A V _ ((zL N)▸V.rel.eraseIdx j) (uf V.sz),C,λq=>ff q⟩⟩
end
end Mine.Internal
end
section
open PySem PySem.Calls PyProof.Rows PySem.W
open scoped Classical
namespace Mine.Internal
section
variable{Z:Cx} {locs:List (Option Loc)} {st:St}
theorem xr(i)(p:IntsAre a f):∀{n},f.findIdx? (· ==i)=some n->∃u:n<a.length,isInt i a[n]=true/\∀m(g),m<n->isInt i a[m]=false:=by
 induction p with
 |nil=>exact λe=>nE e
 | @cons k t f a h o=>
  intro n e;rw[jC]at e;induction b:k==i with
  |true=>rw[b]at e;exact sJ e▸⟨wv _,b,λm _ g=>absurd g<|dF _⟩
  |false=>
   rw[b]at e;exact mE e λm s q=>q▸(o s).elim λr l=>⟨lC r,l.1,λj d c=>match j,d,c with
    |0,_,_=>b
    |j+1,d,c=>l.2 j (bg d) (bg c)⟩
theorem BG(R:Rel Z locs W st.r st.g s.heap)(E:hX Z locs W s.heap o (.ref a))(P:o.aD st=some c)(H:aA Z W x u)(e:K2 st o c .index [x]=some (y,k))(X:eM Z locs d h st s W):∃(b:Array Value)(n:Nat)(f:Value->Bool)(j:Nat),∃C:j<b.size,IsL s.heap a b n/\(∀y,y∈b->MeetsSeq.EqGives y u (f y))/\(j:Int)<2^63 - 1/\f b[j]=true/\(∀m(A),m<j->f b[m]=false)/\EP Z locs d h k y (.int j s.toks) {s with toks:=s.toks+1}:=by refine bE e λi A e=>iE e λI e=>bE e λl O e=>bE e λQ N e=>mE e λn M q=>?_;obtain rfl:=PV.cU A;refine jF (qP R E P O I) λz m V=>?_;obtain⟨t,rfl⟩:∃t,u=.int i t:=H;have D:=tY N V.rel;obtain⟨w,L,J⟩:=xr i D M;have p:=V.sz;unfold az at p;have w:n<z.size:=w;obtain⟨rfl,rfl⟩:=pJ q;exact⟨z,m,isInt i,n,w,V.ho,λy F=>eq_isInt i t D y<|AF.mpr F,by omega,L,λj C v=>J j C v,EP.then X (EP.val R ⟨_,rfl⟩ ⟨_,rfl⟩)⟩
theorem xo{dflt}(vG:aA Z W d dflt)(q:ah Z W a b):aA Z W (((aM k ks).bind λn=>a[n]?).getD d) (((aM k ks).bind λn=>b[n]?).getD dflt):=by
 induction aM k ks with
 |none=>exact vG
 |some n=>
  show aA Z W (a[n]?.getD d) (b[n]?.getD dflt);induction c:a[n]? with
  |none=>rw[q.get_none c];exact vG
  |some p=>exact(q.get c).elim λy z=>by rw[z.1];exact z.2
theorem Jj(I:d≠sysModules)(H:A.units+65<cLine)(h:wpAny (model Z.prog Z.w) A x (λi g=>wpAny (model Z.prog Z.w) A y (λdflt a=>∀C:Prop,(∀b ks p k(W:Gh) q,p' (Z:=Z) W a.heap p d b ks k i->aA Z W q dflt->(∀v t,aA Z W (((aM k ks).bind λn=>p[n]?).getD q) v->Q v {a with toks:=t})->C)->C) E g) E s):wpAny (model Z.prog Z.w) A (callWith u (.builtin "dict.get") [.ref d] [(false,x),(false,y)] []) Q E s:=method2_meetsIn F.slot_dict_get F.entry_dict_get (o0 h (λi _ l=>o0 l (λdflt a j=>by
  have f:=beq_false_of_ne I;refine j _ λb ks p k W q D vG=>?_;cases D with
  |int c r m=>exact λo=>⟨c.typeIs,F.args_dict_get_3 _ _ _,_,Gr (intKind Z.prog Z.w) d (sI ..) f dflt,_,c.mapOf,by rw[ze];exact o _ _<|xo vG m⟩
  |str c r m=>exact λo=>⟨c.typeIs,F.args_dict_get_3 _ _ _,_,Gr (strKind Z.prog Z.w) d (nQ ..) f dflt,_,c.mapOf,by rw[za];exact o _ _<|xo vG m⟩
  |row c M r m L J z=>exact λo=>⟨c.typeIs,F.args_dict_get_3 _ _ _,_,meetsH_dict_get_default (kR Z.prog Z.w) d _ f dflt,show A.units+1+64<cLine from H,k,_,J,c,by rw[zc _ _ L];exact o _ _ (xo vG m)⟩) λ_ _ e=>e) λ_ _ e=>e)
theorem Ji{C:Value->Shared->Prop}(R:Rel Z locs W st.r st.g s.heap)(A:hX Z locs W s.heap o (.ref a))(L:o.aD st=some c)(F:aA Z W x u)(I:aA Z W i d)(e:K2 st o c .get [x,i]=some (y,f))(k:∀v t,EP Z locs s W f y v {s with toks:=t}->C v {s with toks:=t}):∀m:Prop,(∀b ks j k(h) l,p' (Z:=Z) h s.heap j a b ks k u->aA Z h l d->(∀v t,aA Z h (((aM k ks).bind λn=>j[n]?).getD l) v->C v {s with toks:=t})->m)->m:=λ_ E=>bE e λq J e=>iE e λH e=>eV (iq R (A.wD R L) J) λN z M D=>yY (se e) λw p=>E _ q.1 q.2 x W i (eK z▸D.key R H F) I λv t q=>k v t<|w▸p▸EP.val R q ⟨_,rfl⟩
theorem yO{k:Int}(d:IsL s.heap l a n)(g:0<=k) (b:k<2^63) (h:k<a.size)(f:Q () {s with heap:=s.heap.update l (dX (·.setIfInBounds k.toNat v))}):wpAny (model Z.prog Z.w) A (setItem (.ref l) (.int k t) v) Q E s:=by
 have e:=d.isList;delta setItem
 try with_reducible refine cG ?_
 first|refine dL (wpAny_pure ?_)|skip
 refine dL<|T' e.typeIs rfl ?_
 refine dL (F8 (name:=jv "__setitem__") e.typeIs Uc (ja Uc e.typeIs entry_list_setitem ?_ (args_list_setitem _ _ _)));show wpAny _ _ (Yx (.int k t)>>=_) _ _ s;refine dL<|wpAny_listSubscript_int (fitsIndex_of g b) ?_
 obtain⟨j,rfl⟩:=Int.eq_ofNat_of_zero_le g;have c:=Array.getElem?_eq_getElem (by omega:j<a.size)
 refine dL<|dL<|wpAny_seqItemAt d rfl<|wpAny_pure ?_
 refine c▸?_;refine dL<|wpAny_setSeqItemAt d rfl ?_
 first
  |exact dL<|wpAny_pure<|wpAny_pure ⟨.none,rfl,wpAny_pure f⟩
  |exact wpAny_pure ⟨.none,rfl,wpAny_pure f⟩
theorem vL{r:Type}(p)(c)(d)(k)(x:Value)(f)(g:∀a,p a=true->d (f a)=x)(i:∀a,p a=false->f a=a)(l:List r):∀(n),(∀a∈l,PV.beq (c a) k=p a)->(l.map p).count true<=1->aM k (l.map c)=some n->(l.map f).map d=(l.map d).set n x:=by
 induction l with
 |nil=>exact λn _ _ e=>nE e
 |cons a l s=>
  intro n h o e;replace e:(if PV.beq (c a) k=true then some 0 else(aM k<|l.map c).map (· +1))=some n:=e
  rw[h a<|.head _]at e
  induction q:p a with
  |true=>
   simp only[q,if_true,Option.some.injEq]at e;subst e;have v:(l.map p).count true=0:=by simp[q]at o;exact o
   have t:∀b∈l,p b=false:=λb j=>by
    induction z:p b with
    |false=>rfl
    |true=>have:true∈l.map p:=to.mpr ⟨b,j,z⟩;have:=List.count_pos_iff.mpr this;omega
   simp only[xL,List.set_cons_zero,g a q];congr 1;refine bD.trans ?_;apply ej;intro b j;simp only[uG,i b<|t b j]
  |false=>
   simp only[q,jD,if_false,eL]at e;obtain⟨m,u,rfl⟩:=e;have:=s m (λb j=>h b<|cD _ j) (by simpa[q]using o) u
   simp only[xL,List.set_cons_succ,i a q,this]
end
theorem rG{d c:Type}[DecidableEq c](f)(k:c)(l:List d):(l.map f).Nodup->(l.map λx=>decide<|f x=k).count true<=1:=by
 induction l with
 |nil=>intro _;simp
 |cons a l g=>
  intro h;rw[xL,Wp]at h;by_cases q:f a=k
  .have:(l.map λx=>decide<|f x=k).count true=0:=by
    rw[List.count_eq_zero];intro i;refine aO (to.mp i) λb j e=>?_;have:f b=k:=of_decide_eq_true e;exact h.1<|to.mpr ⟨b,j,this.trans q.symm⟩
   simp[q,this]
  .simpa[q]using(g h.2)
section
variable{locs:List (Option Loc)} {st:St}
theorem Ct{K}[DecidableEq K](b:K->PV)(g:∀a k:K,PV.beq (b a) (b k)=decide (a=k)){c h k p y}(o:(c.map (·.1)).Nodup) (j:ah Z W h (c.map (·.2))) (l:aA Z W p y):(upd (c.map λx=>b x.1) h (b k) p).1=(stored c k y).map (λx=>b x.1)/\ah Z W (upd (c.map λx=>b x.1) h (b k) p).2 ((stored c k y).map (·.2)):=by
 have m:∀a∈c,PV.beq (b a.1) (b k)=decide (a.1=k):=λa _=>g _ _;have d:(c.any λf=>decide<|f.1=k)=(aM (b k)<|c.map λx=>b x.1).isSome:=by rw[<-(gH (λa:K×Value=>decide<|a.1=k) (λx=>b x.1) (b k) c m),uI,GC,P3]
 delta upd stored;induction e:aM (b k) (c.map λx=>b x.1)with
 |none=>
  have q:=d.trans<|congrArg _ e
  rw[if_neg (by rw[q];decide)]
  exact⟨by simp,by simpa using j.append (.one l)⟩
 |some n=>
  rw[if_pos (d.trans (congrArg _ e):(c.any λf=>decide<|f.1=k)=true)]
  refine⟨?_,?_⟩
  .rw[bD];apply ej;intro x _;simp only[uG];split<;>rfl
  .have:=vL (λa:K×Value=>decide<|a.1=k) (λx=>b x.1) (·.2) (b k) y (λf=>if f.1=k then(f.1,y)else f)
    (λa i=>by have:a.1=k:=of_decide_eq_true i;simp[this]) (λa i=>by have:¬a.1=k:=of_decide_eq_false i;simp[this]) c n m (rG (·.1) k c o) e
   exact this▸j.set n l
theorem Lo(j:isKey 6 k=true)(l:(c.map (·.1)).Nodup) (g:ah Z W f (c.map (·.2.2))) (i:aA Z W p y):(upd (c.map (·.1)) f k p).1=(storedH c k b y).map (·.1)/\ah Z W (upd (c.map (·.1)) f k p).2 ((storedH c k b y).map (·.2.2)):=by
 have h:=Dn c k j;delta upd storedH;induction e:aM k (c.map (·.1))with
 |none=>
  rw[if_neg (by rw[h,e];decide)]
  exact⟨by simp,by simpa using g.append (.one i)⟩
 |some n=>
  rw[if_pos (by exact h.trans<|congrArg _ e)]
  refine⟨(keys_map_putAt c k y).symm,?_⟩;have:=vL (λa:PV×Addr×Value=>decide<|a.1=k) (λx=>x.1) (·.2.2) k y (putAt k y)
   (λa d=>by have:a.1=k:=of_decide_eq_true d;simp[putAt,this]) (λa d=>by have:¬a.1=k:=of_decide_eq_false d;simp[putAt,this]) c n (λa _=>xO j a.1) (rG (·.1) k c l) e
  exact this▸g.set n i
theorem yz{x:PV×Addr×Value}(h:x∈storedH c k b y):(∃z∈c,x.1=z.1/\x.2.1=z.2.1)\/(x.1=k/\x.2.1=b):=by
 delta storedH at h;split at h
 .refine aO (to.mp h) λz d a=>?_;subst a;refine .inl ⟨z,d,?_⟩;delta putAt;split<;>trivial
 .rcases TD.mp h with h|h
  .exact .inl ⟨x,h,rfl,rfl⟩
  .simp at h;subst h;exact .inr ⟨rfl,rfl⟩
theorem yA{k:PV}:(storedH a k b y).length<=a.length+1:=by delta storedH;split<;>simp
theorem BQ(R:Rel Z locs W st.r st.g s.heap)(T:hX Z locs W s.heap o (.ref a))(e:o.aD st=some I)(es:o.store st (.md none (upd ks n k p).1 (upd ks n k p).2)=some q) (L:a≠sysModules) (D:p' (Z:=Z) W s.heap n a (ji I) ks k u) (M:aA Z W p y) (l:ks.length<az) (X:A.units+65<cLine):wpAny (model Z.prog Z.w) A (setItem (.ref a) u y) (λ_ S=>eM Z locs s W q S W) No s:=by
 have d:∀(f:Heap)(P:Nat),cR a s.heap f->(∃ob,f.get? a=some ob)->(if ji I then O6 Z W f a (.md none (upd ks n k p).1 (upd ks n k p).2)else ey Z W f a (.md none (upd ks n k p).1 (upd ks n k p).2))->eM Z locs s W q {s with heap:=f,toks:=P} W:=λf P j E c=>by exact AH (T.store R e es (λb ob zz0 eb=>(j.2 b zz0).trans eb) E c) λR' U=>⟨⟨_,_,rfl⟩,.rfl,U,R'⟩
 revert l;generalize ji I=gb at D d;revert d;induction D with
 |int i H F=>exact λd l=>yY (Ct (Z:=Z) (W:=W) PV.int (λ_ _=>rfl) (ui i) F M) λv t=>O9 (sI ..) i (λf h j=>(ct.mp h).elim λC z=>d f _ j ⟨_,z.1⟩ ((if_neg xz).mpr ⟨L,C,z.1,.inl ⟨_,v,z.2,am (UK ..) (ac (EQ (im _).symm) l),t⟩⟩)) (cK H)
 |str i H F=>exact λd l=>yY (Ct (Z:=Z) (W:=W) PV.str (λ_ _=>rfl) (ui i) F M) λv t=>O9 (nQ ..) i (λf h j=>(ct.mp h).elim λC z=>d f _ j ⟨_,z.1⟩ ((if_neg xz).mpr ⟨L,C,z.1,.inr ⟨_,v,z.2,am (UK ..) (ac (EQ (im _).symm) l),t⟩⟩)) (cK H)
 |row i h1 H F Q Y J=>exact λd l=>yY (Lo (Z:=Z) (W:=W) Q (uQ i λ_ _ _ z=>z.2.2.2.2.2) F M) λv t=>wpAny_setItem_heap (knd:=kR Z.prog Z.w) (show A.units+1+64<cLine from X) Y i (λf h j=>uQ h λC N O c=>d f _ j ⟨_,c.1⟩ ((if_pos rfl).mpr ⟨L,C,N,O,_,v,c.1,c.2.1,c.2.2.1,c.2.2.2.1,λx V=>(yz V).elim (λy=>y.elim λz m=>m.2.1▸m.2.2▸h1 z m.1) λm=>m.1▸m.2▸⟨J,Q⟩,c.2.2.2.2.2,am yA (ac (EQ (im _).symm) l),t⟩)) (cK H)
theorem Bp(R:Rel Z locs W st.r st.g s.heap)(f:hX Z locs W s.heap o v)(e:o.aD st=some D)(z:o.store st (.ml none<|l.set n p)=some b) (V:iL (Z:=Z) W s.heap false l v a C m) (q:0<=j) (k:idx l j=some n) (i:aA Z W p y):wpAny (model Z.prog Z.w) A (setItem v (.int j t) y) (λ_ d=>eM Z locs s W b d W) No s:=by
 refine YA (t5 V.len k V.sz) λH F E x u=>?_;obtain rfl:=V.e;have c:n=j.toNat:=by rcases u with⟨_,h⟩|⟨h,_⟩<;>omega
 refine yO V.ho q x (by omega) ?_
 refine j8 (tk:=s.toks) R f e z V _ ?_ ?_
 .refine c▸?_;simpa using V.rel.set n i
 .simpa using V.sz
theorem Ext.yw (x:Ext h W C) (F:C.O a=none) (I:h.get? a=none) (H:∀j,t≠some (.le j):=by intro j q;cases q):Ext h W (C.tag a t):=by
 have u:∀b D,C.O b=some D->(C.tag a t).O b=some D:=λb D e=>by rw[Gh.ag _ _ (by rintro rfl;rw[F]at e;cases e)];exact e
 refine⟨x.le.trans (.tag λo e=>by(rw[F]at e;cases e)),λb o E e=>?_,λb e=>u b _ (x.fr b e),λb i e=>u b _ (x.ce b i e),λb i e=>u b _ (x.gl b i e),λb i e=>(x.mu b i e).imp λt z=>⟨u b _ z.1,z.2⟩,λb i e=>(x.ln b i e).imp (u b _) λ⟨o,z⟩=>⟨o,u b _ z⟩,λb i e=>?_⟩
 .rw[Gh.ag _ _ (by rintro rfl;rw[I]at E;cases E)];exact x.new b o E e
 .by_cases q:b=a
  .subst q;rw[Gh.aG]at e;exact absurd e<|H i
  .rw[Gh.ag _ _ q]at e;exact x.lw b i e
end
end Mine.Internal
end
section
open PySem PySem.Calls PyProof.Rows PySem.W
namespace Mine.Internal
section
variable{Z:Cx} {locs:List (Option Loc)} {A:dA} {W W':Gh} {s s':Shared} {h:Heap} {r:List (Option RV)} {st st':St} {f:iU} {n k:Nat} {S:iy} {env:Env}
theorem ey.eJ (M:ey Z W h a I):∃o,h.get? a=some o/\∀W',W.Le W'->W'.O a=some (.fz o)->aA Z W' I.eJ (.ref a):=by
 induction I with
 |v=>exact M.elim
 |ml t l=>obtain⟨J,m,e,N,q⟩:=M;exact⟨_,e,λW' C z=>⟨a,J,m,rfl,z,N,q.mono C⟩⟩
 |md t ks O=>
  obtain⟨L,o,e,d⟩:=M;refine⟨o,e,λW' C z=>?_⟩;refine⟨a,o,rfl,z,L,?_⟩;rcases d with⟨u,H,F,E,D⟩|⟨u,H,F,E,D⟩
  .exact .inl ⟨u,H,F,E,D.mono C⟩
  .exact .inr ⟨u,H,F,E,D.mono C⟩
theorem aA.i {i} (h:aA Z W (.int i) v):∃t,v=.int i t:=h
theorem EP.C9 (h:wpAny (model Z.prog Z.w) A t (EP Z locs s W st' D) No C) (k:∀v u z,eM Z locs s W st' u z->aA Z z D.eJ v->Q v u):wpAny (model Z.prog Z.w) A t Q E C:=EP.on h λv u z x q f=>by
  have H:gj D=true->(D.tag=none/\∃a,v=.ref a/\z.O a=none/\ey Z z u.heap a D)->Q v u:=λI⟨_,a,e,F,M⟩=>
   let⟨o,J,m⟩:=M.eJ
   k v u (z.tag a<|some<|.fz o) ⟨x.same,x.ext.yw F<|f I a e,x.keep,x.rel.fresh F J⟩ (e▸m _ (.tag λo e=>nE<|F.symm.trans e) (Gh.aG ..))
  induction D with
  |v p=>exact k v u z x q
  |ml t l=>exact H rfl q
  |md t ks L=>exact H rfl q
theorem nZ(q:S.loc x i=true)(j:ay S env locs)(R:Rel Z locs W st.r st.g s.heap)(e:st.get i=some l)(h:∀a v,locs[i]?=some (some a)->bP s.heap a v->gn W s.heap i a->oG Z W s.heap i l v->Q v s):wpAny (model Z.prog Z.w) A (eval (.Name x o) env) Q E s:=by
 refine aE q λc t=>aE c λc u=>?_;obtain⟨a,b,p⟩:=j.loc x i<|dT c
 obtain⟨v,d,m⟩:=R.look b<|get_slot e
 exact Hp j p d (bN t) (bN u)<|h a v b d (R.lo i a b) m
theorem k8(h:aw Z.T k S b (.v i)=true):∃x a,b=.Name x a/\S.loc x i=true:=match k,h with
 |m+1,h=>vT (show(co (view b).tag 10&&S.loc (view b).nm i)=true from h) λq h=>⟨_,_,q,h⟩
theorem JO(h:aw Z.T k S a (.comp c g)=true):∃e b d p,a=.ListComp e b d p:=match k,h with
 |m+1,h=>vT (show(co (view a).tag 15&&JS (aw Z.T m) S c g (view a).e1 (view a).gs (view a).sc)=true from h) λq _=>⟨_,_,_,_,q⟩
inductive OI(f:iU)(e:Ex)(st:St):Op->St->Prop
 |pl {i:Nat} {rv:RV} (q:e=.v i) (h:st.get i=some rv):OI f e st (.pl i) st
 |rv {r:RV} {st':St} (h:f.e e st=some (r,st')):OI f e st (.rv r) st'
theorem N3(h:gS f e st=some (o,st')):OI f e st o st':=by
 delta gS at h;induction z:e.var? with
 |some i=>rw[z]at h;exact mE h λ_ a h=>pE h<|.pl (Ex.var_eq z) a
 |none=>rw[z]at h;exact mE h λ_ a h=>pE h<|.rv a
inductive OP(Z:Cx)(locs:List (Option Loc))(s:Shared)(W:Gh)(st':St)(o:Op)(v:Value)(s':Shared):Prop
 |mk (W':Gh) (x:eM Z locs s W st' s' W') (h:hX Z locs W' s'.heap o v):OP Z locs s W st' o v s'
theorem OP.on (h:wpAny (model Z.prog Z.w) A t (OP Z locs s W st' o) No u) (k:∀v C D,eM Z locs s W st' C D->hX Z locs D C.heap o v->Q v C):wpAny (model Z.prog Z.w) A t Q E u:=o0 h (λv C q=>by induction q with|mk D x t=>exact k v C D x t) λ_ _ z=>z.elim
theorem jK(H:qh Z f n)(i:aw Z.T k S l e=true)(d:ay S env locs)(y:fq A n)(R:Rel Z locs W st.r st.g s.heap)(z:gS f e st=some (o,st')):wpAny (model Z.prog Z.w) A (eval l env) (OP Z locs s W st' o) No s:=by
 induction N3 z with
 |pl q h=>subst q;obtain⟨x,j,rfl,u⟩:=k8 i;exact nZ u d R h λc v t p m _=>⟨W,.n8 R,c,t,p,m⟩
 |rv h=>exact EP.on (H.e i d y R h) λv s' W' a b _=>⟨W',a,b⟩
theorem AY(h:notStar e=true):starEach (e::a) env=(false,eval e env)::starEach a env:=by cases e with
 |Starred=>exact ff h
 |_=>rfl
theorem du(b)(env):es.all notStar=true->backTo b (starEach es env)=es.map λe=>(false,eval e env):=by
 induction es with
 |nil=>exact@λ_=>rfl
 |cons e es a=>intro h;refine aE h λd c=>?_;have a:=a c;unfold backTo at a⊢;rw[AY d,xL,a];rfl
theorem ah.cons (a:aA Z W p v) (b:ah Z W l q):ah Z W (p::l) (v::q):=⟨a,b⟩
inductive LP(Z:Cx)(locs:List (Option Loc))(s:Shared)(W:Gh)(st':St)(b:List PV)(a:List Value)(s':Shared):Prop
 |mk (W':Gh) (x:eM Z locs s W st' s' W') (h:ah Z W' b a):LP Z locs s W st' b a s'
theorem LP.on (h:wpAny (model Z.prog Z.w) A t (LP Z locs s W st' H) No u) (k:∀F C D,eM Z locs s W st' C D->ah Z D H F->Q F C):wpAny (model Z.prog Z.w) A t Q E u:=o0 h (λv C q=>by induction q with|mk D x t=>exact k v C D x t) λ_ _ z=>z.elim
theorem DT(H:qh Z f n)(F:ay S env locs)(J:fq A n){a}:∀{l b W st st' s},cJ (aw Z.T k S) a l=true->Rel Z locs W st.r st.g s.heap->ua f l st=some (b,st')->wpAny (model Z.prog Z.w) A (spliced<|a.map λe=>(false,eval e env)) (LP Z locs s W st' b) No s:=by
 induction a with
 |nil=>
  intro d;induction d with
  |nil=>exact@λ_ W st _ s _ R e=>Pz e (D:=λb st'=>wpAny (model Z.prog Z.w) A (spliced []) (LP Z locs s W st' b) No s)<|spliced_nil ⟨W,.n8 R,trivial⟩
  |cons _ _=>exact@λ_ _ _ _ _ h _ _=>ff h
 |cons O a E=>
  intro c;induction c with
  |nil=>exact@λ_ _ _ _ _ h _ _=>ff h
  |cons e l=>exact@λb W st st' s I R m=>aE I λj i=>bE m λx M m=>mE m λy L q=>Gq (EP.C9 (H.e (st':=x.2) j F J R M) λv N P p u=>LP.on (E (st':=y.2) i p.rel L) λz C W2 o t=>pE (D:=λb st'=>LP Z locs s W st' b (v::z) C) q ⟨W2,p.trans o,ah.cons (aA.mono o.ext.le u) t⟩)
theorem wz(H:qh Z f n)(z:ay S env locs)(C:fq A n){M:Value->Value->Sem Value}(u:aw Z.T k S E a=true) (t:aw Z.T k S D b=true) (R:Rel Z locs W st.r st.g s.heap) (O:gS f a st=some (p,o)) (N:gS f b o=some (q,c)) (L:p.aD c=some x) (J:q.aD c=some y)(h:∀e d i W2,eM Z locs s W c i W2->ez Z W2 i.heap x e->ez Z W2 i.heap y d->wpAny (model Z.prog Z.w) A (M e d) Q No i):wpAny (model Z.prog Z.w) A (eval E env) (λe m=>wpAny (model Z.prog Z.w) A (eval D env) (λd l=>wpAny (model Z.prog Z.w) A (M e d) Q No l) No m) No s:=OP.on (jK H u z C R O) λe P U v I=>OP.on (jK H t z C v.rel N) λd i W2 j F=>h e d i W2 (v.trans j) ((I.keep j.ext j.keep).wD j.rel L)<|F.wD j.rel J
theorem OO(H:qh Z f n)(u:ay S env locs)(v:fq A n)(i:aw Z.T k S m a=true)(e:aw Z.T k S l b=true)(R:Rel Z locs W st.r st.g s.heap) (I:gS f a st=some (p,d)) (F:gS f b d=some (q,c)) (E:p.aD c=some x) (D:q.aD c=some y) (C:hK c.g op x y=some z):wpAny (model Z.prog Z.w) A (eval (.BinOp m op l j) env) (EP Z locs s W c z) No s:=wpAny_BinOp (wz H u v i e R I F E D λL J M W2 X t o=>o0 (B3 X.rel t o C) (λ_ _ q=>EP.then X q) λ_ _ z=>z)
theorem D6(b:eS a=true):behindInMarks op a=false:=by cases a with
 |Set=>exact ff b
 |_=>rfl
theorem Oz(H:qh Z f n)(D:ay S env locs)(l:fq A n)(C:eS j=true)(i:aw Z.T k S o a=true)(e:aw Z.T k S j b=true)(R:Rel Z locs W st.r st.g s.heap) (L:gS f a st=some (p,d)) (J:gS f b d=some (q,c)) (I:p.aD c=some x) (F:q.aD c=some y) (E:aS c.g op x y=some z):wpAny (model Z.prog Z.w) A (eval (.Compare o [op] [j] m) env) (EP Z locs s W c<|.v<|.bool z) No s:=wpAny_Compare1 (wz H D l i e R L J I F λN M O W2 X u t=>o0 (uo X.rel u t E l.Wu) (λv _ q=>EP.then X (EP.val X.rel q.1 q.2)) λ_ _ z=>z) (D6 C)
theorem JL(H:qh Z f n)(J:ay S env locs)(u:fq A n)(I:eS t=true)(l:aw Z.T k S D a=true)(j:aw Z.T k S t b=true)(R:Rel Z locs W st.r st.g s.heap) (U:gS f a st=some (p,i)) (P:gS f b i=some (q,d)) (O:p.aD d=some x) (N:q.aD d=some y) (L:aS d.g op x y=some z):wpAny (model Z.prog Z.w) A (bW (.Compare D [op] [t] C) env whole) (BP Z locs s W d z) No s:=wpAny_isTrue_Compare1 (wz H J u l j R U P O N (M:=λo m=>compareOp op o m) (Q:=λc e=>wpAny (model Z.prog Z.w) A (truthy c) (BP Z locs s W d z) No e) λo m V W2 X F E=>o0 (uo X.rel F E L u.Wu) (λv _ q=>q.1▸T9 ⟨rfl,_,X.trans (q.2.EA X.rel)⟩) λ_ _ z=>z) (D6 I)
end
section
variable{Z:Cx} {locs:List (Option Loc)} {A:dA} {h h':Heap} {st:St} {f:iU} {n k:Nat} {S:iy} {env:Env}
theorem vH(a:ay S env locs)(h:S.glob x=true):env.kindOf x=some .globalImplicit/\(x==("__debug__":Str))=false:=aE h λh b=>aE h λd c=>⟨a.gl x (dT d)<|dT b,bN c⟩
theorem wY(d:h.Ns a m)(k:∀b o,h.get? b=some o->h'.get? b=some o):h'.Ns a m:=xY d λo e g c r=>⟨o,e,g,k _ _ c,r⟩
theorem qZ(B:lu Z)(R:Rel Z locs W st.r st.g s.heap)(a:ay S env locs)(c:S.glob x=true)(d:Z.mg x=some v)(h:Q v s):wpAny (model Z.prog Z.w) A (eval (.Name x b) env) Q E s:=by refine AH (vH a c) λi e=>?_;refine QK ?_ e;exact(loadName_read a.kind i)▸loadGlobal_global (a.glb▸wY B.NO (ec R)) d h
theorem B2(B:lu Z)(R:Rel Z locs W st.r st.g s.heap)(a:ay S env locs)(d:S.glob x=true)(e:b.nm=x)(h:Q (pU b) s):wpAny (model Z.prog Z.w) A (eval (.Name x c) env) Q E s:=by refine AH (vH a d) λj i=>?_;subst e;refine QK ?_ i;rw[loadName_read a.kind j];exact loadGlobal_builtin (by rw[a.glb];exact wY B.NO<|ec R) (B.bi b).1 (by rw[a.blt];exact wY B.YV<|ec R) (B.bi b).2 h
theorem JX(B:lu Z)(d:aw Z.T k S e (.c v)=true)(j:ay S env locs)(R:Rel Z locs W st.r st.g s.heap):wpAny (model Z.prog Z.w) A (eval e env) (λu i=>aA Z W v u/\jm s i) No s:=by
 match k,d with
 |k+1,d=>
 refine(FM.mp d).elim (λh=>vT h λq h=>?_) λh=>vT h λq h=>aE h λh b=>?_
 .refine q▸oE h λp a b=>?_;obtain rfl:=PV.beq_eq b;generalize(view e).c=c at a;induction c with
  |none=>obtain rfl:=sJ a;exact wpAny_pure ⟨rfl,.iX⟩
  |bool=>obtain rfl:=sJ a;exact wpAny_pure ⟨rfl,.iX⟩
  |int=>obtain rfl:=sJ a;exact wpAny_Constant_int ⟨⟨_,rfl⟩,_,rfl⟩
  |str=>obtain rfl:=sJ a;exact Constant_str ⟨⟨_,rfl⟩,_,rfl⟩
  |_=>exact nE a
 .refine q▸oE b λp a b=>?_;obtain rfl:=PV.beq_eq b;exact aO (B.gt _ v a) λy m l=>qZ B R j h m ⟨l.mono<|Jh R,.iX⟩
theorem Vb(N:aw Z.T k S C (.v i)=true)(L:ay S env locs)(R:Rel Z locs W st.r st.g s.heap)(e:st.get i=some b):wpAny (model Z.prog Z.w) A (eval C env) (EP Z locs s W (if b.LG then st.put i (some<|.v b.eJ)else st)<|.v b.eJ) No s:=by
 refine nF (k8 N) λx u c I=>?_;subst c;refine nZ I L R e λD v F E Q d=>?_;have m:(∃a,v=.ref a/\W.O a=some (bV i b)/\ey Z W s.heap a b)->EP Z locs s W (st.put i<|some<|.v b.eJ) (.v b.eJ) v s:=by
  rintro⟨a,rfl,z,M⟩;refine aO M.eJ λo J H=>?_;have j:=dY i b;have p:=H _ (.tag λP e=>by replace e:=z▸e;rcases j with q|q<;>(replace e:=q▸e;cases e)) (Gh.aG ..)
  exact⟨_,⟨⟨s.heap,s.toks,rfl⟩,Ext.freeze j z,.rfl,R.freeze j z J F E p⟩,p,λq=>ff q⟩
 induction b with
 |v y=>exact⟨W,.n8 R,d,λq=>ff q⟩
 |ml t l=>exact m d
 |md t ks O=>exact m d
theorem BP.then (x:eM Z locs s W z C D) (y:BP Z locs C D st'' b c q):BP Z locs s W st'' b c q:=let⟨e,u,a⟩:=y;⟨e,u,x.trans a⟩
theorem EP.truth (q:EP Z locs s W u x v J) (e:cF u.g x=some t) (k:∀D W2,EP Z locs s W u x v D->eM Z locs s W u D W2->Q t D):wpAny (model Z.prog Z.w) A (truthy v) Q No J:=by
 induction q with
 |mk H E F I=>
  refine o0 (lS E.rel F.wD e) (λc D h=>?_) λ_ _ z=>z;have C:=E.trans<|h.2.EA E.rel
  obtain⟨L,rfl⟩:=h.2;exact h.1▸k _ H ⟨H,C,F,I⟩ C
theorem zY(l:d=decide (op=.Or))(h:wpAny (model Z.prog Z.w) A (eval i env) (λv b=>wpAny (model Z.prog Z.w) A (truthy v) (λc a=>if c=d then Q v a else wpAny (model Z.prog Z.w) A (eval (.BoolOp op (g::e) j) env) Q E a) E b) E s):wpAny (model Z.prog Z.w) A (eval (.BoolOp op (i::g::e) j) env) Q E s:=by
 subst l;induction op with
 |And=>exact BoolOp_and<|o0 h (λv o q=>o0 q (λc m q=>by induction c<;>exact q) λ_ _ z=>z) λ_ _ z=>z
 |Or=>exact BoolOp_or<|o0 h (λv o q=>o0 q (λc m q=>by induction c<;>exact q) λ_ _ z=>z) λ_ _ z=>z
theorem zt(e:a=decide (op=.Or))(h:wpAny (model Z.prog Z.w) A (bW x env<|eval x env) (λc g=>if c=a then Q a g else wpAny (model Z.prog Z.w) A (bW (.BoolOp op b d) env whole) Q E g) E s):wpAny (model Z.prog Z.w) A (bW (.BoolOp op (x::b) d) env whole) Q E s:=by
 subst e;induction op with
 |And=>exact isTrue_and<|o0 h (λc i q=>by induction c<;>exact q) λ_ _ z=>z
 |Or=>exact isTrue_or<|o0 h (λc i q=>by induction c<;>exact q) λ_ _ z=>z
theorem uw(H:qh Z f n)(m:ay S env locs)(y:fq A n){op a}(c:a=(decide<|op=.Or)){l}:∀{b C i W st st' s},cJ (aw Z.T k S) b C=true->Rel Z locs W st.r st.g s.heap->zK f a C st=some (i,st')->wpAny (model Z.prog Z.w) A (eval (.BoolOp op b l) env) (EP Z locs s W st' i) No s
 |[],[],_,_,_,_,_,_,_,e=>nE e
 |[pe],[e],i,W,st,st',s,u,R,d=>BoolOp_one<|H.e (sB.mp u).1 m y R d
 |pe::F::b,e::N::C,i,W,st,st',s,u,R,d=>aE u λp o=>bE d λx J d=>bE d λt I j=>zY c (o0 (H.e (st':=x.2) p m y R J) (λv M q=>EP.truth q I λL W2 E D=>by
   by_cases h:t=a
   .rw[if_pos h]at j⊢;obtain rfl:=sJ j;exact E
   .rw[if_neg h]at j⊢;exact o0 (uw H m y c o D.rel j) (λ_ _ q=>EP.then D q) λ_ _ z=>z) λ_ _ z=>z)
 |[],_::_,_,_,_,_,_,h,_,_=>ff h
 |_::_,[],_,_,_,_,_,h,_,_=>ff h
 |[_],_::_::_,_,_,_,_,_,h,_,_=>ff (sB.mp h).2
 |_::_::_,[_],_,_,_,_,_,h,_,_=>ff (sB.mp h).2
theorem v9(H:qh Z f n)(y:ay S env locs)(D:fq A n){op a}(d:a=(decide<|op=.Or)){o whole c}:∀{u b W st st' s},cJ (aw Z.T k S) c u=true->Rel Z locs W st.r st.g s.heap->oA f a u st=some (b,st')->wpAny (model Z.prog Z.w) A (bW (.BoolOp op c o) env whole) (BP Z locs s W st' b) No s:=by
 induction c with
 |nil=>
  intro l;induction l with
  |nil=>
   intro b W st st' s _ R e;obtain⟨rfl,rfl⟩:=se e;subst d;induction op with
   |And=>exact isTrue_and_nil ⟨rfl,W,.n8 R⟩
   |Or=>exact isTrue_or_nil ⟨rfl,W,.n8 R⟩
  |cons _ _=>exact@λ_ _ _ _ _ h _ _=>ff h
 |cons L c v=>
  intro j;induction j with
  |nil=>exact@λ_ _ _ _ _ h _ _=>ff h
  |cons e u=>exact@λb W st st' s C R F=>aE C λt p=>bE F λx E i=>zt d (BP.on (H.b (st':=x.2) (b:=x.1) t y D R E) λJ I m=>by
   by_cases h:x.1=a
   .rw[if_pos h]at i⊢;obtain⟨rfl,rfl⟩:=se i;exact⟨rfl,I,m⟩
   .rw[if_neg h]at i⊢;exact o0 (v p m.rel i) (λ_ _ q=>BP.then m q) λ_ _ z=>z)
end
section
variable{Z:Cx} {locs:List (Option Loc)} {W W':Gh} {s s':Shared} {h:Heap} {st st':St}
theorem sP(H:qh Z f n)(j:ay S c locs)(m:fq A n)(l:aw Z.T k S d e=true)(R:Rel Z locs W st.r st.g s.heap)(u:gS f e st=some (p,st')) (q:p.aD st'=some x) (o:cF st'.g x=some t):wpAny (model Z.prog Z.w) A (eval d c) (λv a=>wpAny (model Z.prog Z.w) A (truthy v) (BP Z locs s W st' t) No a) No s:=OP.on (jK H l j m R u) λ_ _ y b i=>o0 (lS b.rel (i.wD b.rel q) o) (λ_ _ h=>⟨h.1,y,b.trans<|h.2.EA b.rel⟩) λ_ _ z=>z
theorem Mv(H:qh Z f n)(d:ay S a locs)(j:fq A n)(i:aw Z.T k S c e=true)(R:Rel Z locs W st.r st.g s.heap)(u:gS f e st=some (p,st')) (o:p.aD st'=some x) (m:cF st'.g x=some t):wpAny (model Z.prog Z.w) A (eval (.UnaryOp .Not c b) a) (EP Z locs s W st'<|.v<|.bool<|!t) No s:=UnaryOp_ (o0 (sP H d j i R u o m) (λ_ _ q=>not_of<|BP.on q λ_ W2 l=>⟨W2,l,rfl,λq=>ff q⟩) λ_ _ z=>z)
theorem MB(H:qh Z f n)(l:ay S b locs)(o:fq A n)(m:aw Z.T k S j e=true)(R:Rel Z locs W st.r st.g s.heap)(p:f.e e st=some (.v<|.int i,st')):wpAny (model Z.prog Z.w) A (eval (.UnaryOp .USub j d) b) (EP Z locs s W st'<|.v<|.int (-i)) No s:=UnaryOp_ (EP.on (H.e m l o R p) λv u q c a _=>by replace a:aA Z q (.int i) v:=a;obtain⟨t,rfl⟩:=a.i;exact Ym (EP.then c (EP.val c.rel ⟨_,rfl⟩ ⟨_,rfl⟩)))
theorem ite_snd(H:qh Z f n)(j:ay S o locs)(m:fq A n)(D:aw Z.T k S x c=true)(E:aw Z.T k S C a=true)(l:aw Z.T k S y b=true)(R:Rel Z locs W st.r st.g s.heap) (F:f.b c st=some (t,d)) (p:(if t then f.e a d else f.e b d)=some (u,st')):wpAny (model Z.prog Z.w) A (eval (.IfExp x C y v) o) (EP Z locs s W st' u) No s:=IfExp_ (BP.on (H.b D j m R F) λI J i=>by
  induction t with
  |true=>exact o0 (H.e E j m i.rel p) (λ_ _ q=>EP.then i q) λ_ _ z=>z
  |false=>exact o0 (H.e l j m i.rel p) (λ_ _ q=>EP.then i q) λ_ _ z=>z)
theorem I0(H:qh Z f n)(i:ay S m locs)(l:fq A n)(C:aw Z.T k S v c=true)(D:aw Z.T k S y a=true)(j:aw Z.T k S x b=true)(R:Rel Z locs W st.r st.g s.heap) (E:f.b c st=some (t,d)) (o:(if t then f.b a d else f.b b d)=some (u,st')):wpAny (model Z.prog Z.w) A (bW (.IfExp v y x p) m whole) (BP Z locs s W st' u) No s:=isTrue_IfExp (BP.on (H.b C i l R E) λF I e=>by
  induction t with
  |true=>exact o0 (H.b D i l e.rel o) (λ_ _ q=>BP.then e q) λ_ _ z=>z
  |false=>exact o0 (H.b j i l e.rel o) (λ_ _ q=>BP.then e q) λ_ _ z=>z)
theorem LX(H:qh Z f n)(q:ay S j locs)(d:fq A n)(N:aw Z.T k S F o=true)(M:aw Z.T k S I i=true)(R:Rel Z locs W st.r st.g s.heap) (Q:gS f o st=some (p,c)) (P:f.e i c=some (D,b)) (O:p.aD b=some x) (t:gy b.g x D.eJ=some y):wpAny (model Z.prog Z.w) A (eval (.Subscript F I E) j) (EP Z locs s W b<|.v y) No s:=by
 refine Subscript_<|OP.on (jK H N q d R Q) λV zz1 W1 l J=>EP.C9 (H.e M q d l.rel P) λU Y W2 a L=>?_
 have m:=(J.keep a.ext a.keep).wD a.rel O;exact nF (G' a.rel m t) λTy id C u=>n7 C u<|o0 (AU a.rel m L t d.Wu) (λv X h=>EP.then (l.trans a) (EP.val a.rel h.1 h.2)) λ_ _ z=>z
inductive PP(Z:Cx)(locs:List (Option Loc))(s:Shared)(W:Gh)(st':St)(p:Option PV)(v:Value)(s':Shared):Prop
 |mk (W':Gh) (x:eM Z locs s W st' s' W') (i:Option Int) (h:pZ p v i):PP Z locs s W st' p v s'
theorem PP.on (h:wpAny (model Z.prog Z.w) A t (PP Z locs s W st' p) No u) (k:∀v C D,eM Z locs s W st' C D->∀i,pZ p v i->Q v C):wpAny (model Z.prog Z.w) A t Q E u:=o0 h (λv C q=>by induction q with|mk D x i t=>exact k v C D x i t) λ_ _ z=>z.elim
theorem C7(H:qh Z f n)(o:ay S b locs)(u:fq A n)(j:BZ (aw Z.T k S) d e=true)(R:Rel Z locs W st.r st.g s.heap)(c:rF f e st=some (p,st'))(a:p=none\/∃i,p=some (.int i)):wpAny (model Z.prog Z.w) A (evalPart d b) (PP Z locs s W st' p) No s:=by
 match d,e,j,c with
 |none,none,_,c=>obtain⟨rfl,rfl⟩:=se c;exact O' ⟨W,.n8 R,_,.none⟩
 |some d,some e,j,c=>
  refine mE c λx y q=>pE (D:=λp st'=>(p=none\/∃i,p=some (.int i))->wpAny (model Z.prog Z.w) A (evalPart (some d) b) (PP Z locs s W st' p) No s) q (λa=>?_) a;refine wpAny_evalPart_some<|EP.C9 (H.e (st':=x.2) j o u R y) λv C z m l=>?_
  rcases a with a|⟨i,a⟩
  .cases a
  .rw[bn a]at l⊢;obtain⟨t,rfl⟩:=aA.i l;exact⟨z,m,_,.int i t⟩
theorem DV{n d z r}:endOf n d r=some z->r=none\/∃i,r=some (.int i):=by
 induction r with
 |none=>exact λ_=>.inl rfl
 |some _=>exact λh=>mE h λi h _=>.inr ⟨i,congrArg _<|PV.cU h⟩
theorem Ht(e:ya st.g x b a=some y):(b=none\/∃i,b=some (.int i))/\(a=none\/∃i,a=some (.int i)):=bE e λ_ _ e=>bE e λ_ d e=>mE e λ_ c _=>⟨DV d,DV c⟩
theorem Rh(H:qh Z f n)(i:ay S l locs)(j:fq A n){lo}(U:aw Z.T k S I o=true)(P:BZ (aw Z.T k S) J lo=true)(O:BZ (aw Z.T k S) E Q=true)(R:Rel Z locs W st.r st.g s.heap) (zz2:gS f o st=some (p,e)) (Y:rF f lo e=some (D,d)) (X:rF f Q d=some (C,a)) (V:p.aD a=some x) (u:ya a.g x D C=some y):wpAny (model Z.prog Z.w) A (eval (.Subscript I (.Slice J E none p1) F) l) (EP Z locs s W a y) No s:=by
 have t:=Ht u;refine Subscript_<|OP.on (jK H U i j R zz2) λva s1 W1 m L=>?_
 refine wpAny_Slice<|PP.on (C7 H i j P m.rel Y t.1) λvl s2 W2 c il N=>PP.on (C7 H i j O c.rel X t.2) λvu s3 W3 b iu M=>O' ?_
 exact o0 (EM b.rel (((L.keep c.ext c.keep).keep b.ext b.keep).wD b.rel V) N M u) (λv s4 q=>EP.then ((m.trans c).trans b) q) λ_ _ z=>z
theorem N4:∀{st st' a},ua f b st=some (a,st')->a.length=b.length:=by
 induction b with
 |nil=>intro _ _ _ e;obtain⟨rfl,rfl⟩:=se e;rfl
 |cons e b c=>exact@λ_ _ _ h=>bE h λx _ h=>mE h λy d q=>pE (D:=λa _=>a.length=b.length+1) q<|congrArg (· +1)<|c (st':=y.2) d
theorem few(h:c.length<=64)(e:ua f c st=some (b,st'))(q:ah Z W b a):a.toArray.size<=64:=by rw[<-N4 e,q.length]at h;exact h
theorem zE{a:List Value}(h:a.toArray.size<=64):a.length<=sizeLine/\a.toArray.size<=az:=by rw[qi];delta az;have:a.length<=64:=h;exact⟨by omega,by omega⟩
theorem LA(H:qh Z f n)(p:ay S b locs)(u:fq A n)(o:a.all notStar=true)(t:cJ (aw Z.T k S) a i=true)(R:Rel Z locs W st.r st.g s.heap) (d:i.length<=64) (j:ua f i st=some (m,st')):wpAny (model Z.prog Z.w) A (eval (.Tuple a y c) b) (EP Z locs s W st'<|.v<|.tup m) No s:=by exact wpAny_Tuple ((du c b o)▸LP.on (DT H p u t R j) λx l z e q=>have h:=zE<|few d j q;⟨h.1,EP.then e (EP.w0 (tk:=l.toks) e.rel .rfl q h.2)⟩)
theorem M0(H:qh Z f n)(p:ay S b locs)(u:fq A n)(o:a.all notStar=true)(t:cJ (aw Z.T k S) a i=true)(R:Rel Z locs W st.r st.g s.heap) (d:i.length<=64) (j:ua f i st=some (m,st')):wpAny (model Z.prog Z.w) A (eval (.List a c) b) (EP Z locs s W st'<|.ml none m) No s:=by exact wpAny_List ((du c b o)▸LP.on (DT H p u t R j) λv l x e q=>have h:=zE<|few d j q;⟨h.1,EP.then e (EP.newList (tk:=l.toks) e.rel .rfl q h.2)⟩)
theorem TP(B:lu Z)(H:qh Z f n)(m:ay S d locs)(o:fq A n)(u:S.glob x=true)(D:b.nm=x)(C:notStar i=true)(E:aw Z.T k S i a=true)(R:Rel Z locs W st.r st.g s.heap) (J:gS f a st=some (p,st')) (I:p.aD st'=some y) (F:uK st'.g b y=some z):wpAny (model Z.prog Z.w) A (eval (.Call (.Name x M) [i] [] l) d) (EP Z locs s W st' z) No s:=by
 refine dL<|B2 B R m u D ?_
 refine(du l d (es:=[i])<|sB.mpr ⟨C,rfl⟩)▸?_
 have c:wpAny (model Z.prog Z.w) A (eval i d) (λv e=>wpAny (model Z.prog Z.w) A (call (pU b) [v]) (EP Z locs s W st' z) No e) No s:=OP.on (jK H E m o R J) λv L N j t=>o0 (F0 j.rel o.hd (t.wD j.rel I) F) (λ_ _ q=>EP.then j q) λ_ _ q=>q;induction b with
 |range=>exact Au c
 |tuple=>exact Au c
 |_=>exact PySem.callWith_builtin1 c
end
section
variable{Z:Cx} {locs:List (Option Loc)} {A:dA} {W:Gh} {s:Shared} {st st':St} {f:iU} {n:Nat} {S:iy} {env:Env}
theorem oD(h:gB e=true):attributeBase e x env t=t:=by cases e with
 |Call=>exact ff h
 |_=>rfl
theorem aA.handed (h:aA Z W p v):handedIn v=true:=by
 cases p with
 |none=>subst h;rfl
 |bool=>subst h;rfl
 |int=>obtain⟨_,rfl⟩:=aA.i h;rfl
 |str s=>obtain⟨_,rfl⟩:∃t,v=.str s t:=h;rfl
 |cd=>refine nF h λa _ q _=>?_;subst q;rfl
 |aZ=>obtain⟨a,_,rfl⟩:=h;rfl
 |iH=>refine x41 h λa _ _ _ q _=>?_;subst q;rfl
 |_=>refine xY h λa _ _ q _=>?_;subst q;rfl
theorem qV{G:Prop}(R:Rel Z locs W r g h)(O:aA Z W (.aZ m) v)(Q:g[m]?=some (.inst c))(P:g[m+1]?=some (.iK o J))(k:∀x C d i a l,v=.ref x->Z.CA[c]?=some C->W.F[m]?=some x->W.F[m+1]?=some d->h.get? x=some ⟨.ref C,some d,.plain,i⟩->h.get? d=some (dictOf a l)->o.length=a.length->(∀(j:Nat)(x:Str)(e:DictEntry),o[j]?=some x->a[j]?=some e->∃t,e.key=.str x t)->o.length<=100->ah Z W J (a.map (·.val))->PySem.W.InstAt h x ⟨.ref C,some d,.plain,i⟩ C (some (dictOf a l))->G):G:=aO O λx N M=>eV (R.gl.at_ m _ Q) λI w _ q=>Zo q λC d i L u p=>eV (R.gl.at_ (m+1) _ P) λT H _ z=>Zp z λa l b F E D y=>
  have b:=sJ (H.symm.trans u)▸b
  k I C d i a l (M.trans<|congrArg _<|sJ<|N.symm.trans w) L w u p b F E D y ⟨p,rfl,rfl,b⟩
theorem vE{a:List Str}{es:List DictEntry}(b:a.length=es.length)(c:∀(j:Nat)(x:Str)(e:DictEntry),a[j]?=some x->es[j]?=some e->∃t,e.key=.str x t)(x):(es.find? (·.key.isStr x))=(a.idxOf? x).bind λj=>es[j]?:=by
 induction a generalizing es with
 |nil=>
  induction es with
  |nil=>rfl
  |cons _ es=>exact nomatch(b:0=es.length+1)
 |cons y a d=>
  induction es with
  |nil=>exact nomatch(b:a.length+1=0)
  |cons e es=>
   obtain⟨t,g⟩:=c 0 y e rfl rfl;rw[lO,(by rw[g];rfl:e.key.isStr x=(y==x)),Ky]
   induction h:(y==x)with
   |true=>rfl
   |false=>refine(d (es:=es) (fg b) λj=>c<|j+1).trans ?_;induction a.idxOf? x<;>rfl
theorem Fa(h:a.find? (·.key.isStr x)=some e):lookIn x (dictOf a b)=some (some e.val):=by delta lookIn;dsimp only[dictOf];rw[h]
theorem Ju{K}{g:List Str}(d:clsIn K C=some h)(b:findIn K (.ref C) x=some none)(c:h.hasDict=true)(p:(a.find? (·.key.isStr x))=(g.idxOf? x).bind λj=>a[j]?)(m:g.idxOf? x=some j)(l:(a.map (·.val))[j]?=some u):findObj K C (some<|dictOf a q) x=some (.value u):=mE (H1.symm.trans l) λe k i=>bI d<|bI b<|bI (o:=PySem.W.ownOf h (some<|dictOf a q) x) ((if_pos c).trans<|Fa<|p.trans<|bI m k)<|congrArg (λv=>some<|An v) i
theorem OW(B:lu Z)(H:qh Z f n)(U:ay S env locs)(X:fq A n)(Y:Z.T.AN.contains x=true)(O:gB a=true)(V:aw Z.T k S a o=true)(R:Rel Z locs W st.r st.g s.heap) (e:f.e o st=some (.v<|.aZ m,st')) (M:st'.g[m]?=some (.inst c)) (L:st'.g[m+1]?=some (.iK N D)) (J:N.idxOf? x=some j) (F:D[j]?=some y):wpAny (model Z.prog Z.w) A (eval (.Attribute a x h) env) (EP Z locs s W st'<|.v y) No s:=by
 show wpAny (model Z.prog Z.w) A (do
  let o<-attributeBase a x env (eval a env)
  standAt h.atName
  let r<-holding [o] (getAttr o x true)
  letTemporaryGo a o r
  pure r) _ _ _
 refine(oD O)▸?_;exact dL (EP.on (H.e V U X R e) λv s1 W1 b z _=>qV b.rel z M L λxa C d sl es ep ev zz3 _ _ _ _ P Q _ i I=>have q:=B.cls c C zz3
  aO q.cd λcd p l=>aO (i.get F) λu E t=>ev▸dL (ft (dL (cG (get_value (nB B.YQ (ec b.rel)) I q.ga (Ju p (q.no x (wf.mp Y)).1 l (vE P Q x) J E) t.handed (dL (K6 (wpAny_pure (EP.then b (EP.val b.rel t ⟨_,rfl⟩))))))))))
noncomputable def Y9:Bm->String
 |.get=>"dict"
 |_=>"list"
theorem Og(x:rX (Z:=Z) W h c a d ks):∃ob,h.get? a=some ob/\ob.dict=none:=by
 induction x with
 |int _ b=>exact uQ b λo _ _ z=>⟨o,z.1,z.2.1.2.1⟩
 |str _ b=>exact uQ b λo _ _ z=>⟨o,z.1,z.2.1.2.1⟩
 |row b=>exact uQ b λo _ _ z=>⟨o,z.1,z.2.1.2.1⟩
theorem OH{G:Prop}(R:Rel Z locs W st.r st.g s.heap)(t:hX Z locs W s.heap o v)(e:o.aD st=some c)(u:xN st.g b c=true)(k:∀a ob,v=.ref a->s.heap.get? a=some ob->ob.dict=none->s.TypeIs v (Y9 b)->(b=.get->a≠sysModules)->G):G:=by
 have d:((cA st.g c).isSome&& !isTup c)=true->∃a ob,v=.ref a/\s.heap.get? a=some ob/\ob.dict=none/\s.TypeIs v "list":=λh=>aE h λp j=>(Pi.mp p).elim λl i=>uQ (d6 R (t.wD R e) i) λa x m V=>have V:iL W s.heap false l v a x m:=bN j▸V;⟨a,_,V.e,V.ho,rfl,V.e▸⟨_,V.ho,rfl⟩⟩;induction b with
 |get=>exact(Pi.mp u).elim λq i=>eV (iq R (t.wD R e) (ks:=q.1) (vs:=q.2) i) λa w y D=>(Og D).elim λob z=>k a ob w z.1 z.2 (w▸D.typ) λ_=>y
 |_=>exact AG (d u) λa ob p j E C=>k a ob p j E C nofun
theorem JR:∀{b},cJ F a b=true->a.length=b.length:=by
 induction a with
 |nil=>exact λh=>(eC.mp h)▸rfl
 |cons x a c=>
  intro b h;induction b with
  |nil=>exact ff h
  |cons y b=>exact congrArg (· +1)<|c (sB.mp h).2
theorem rh{C:Prop}(h:cJ F a (y::b)=true)(k:∀x l,a=x::l->F x y=true->cJ F l b=true->C):C:=by
 induction a with
 |nil=>exact ff h
 |cons x l=>exact aE h λd c=>k x l rfl d c
theorem uq(h:cJ F a []=true):a=[]:=by
 induction a with
 |nil=>rfl
 |cons=>exact ff h
theorem xu(h:ua f a st=some ([],st')):a=[]/\st'=st:=by
 induction a with
 |nil=>exact⟨rfl,(se h).2.symm⟩
 |cons=>exact bE h λ_ _ h=>mE h λ_ _ q=>nomatch(pJ q).1
theorem t9{C:Prop}(h:ua f b st=some (x::c,st'))(k:∀e l r a,b=e::l->f.e e st=some (r,a)->r.eJ=x->ua f l a=some (c,st')->C):C:=by
 induction b with
 |nil=>exact nomatch(se h).1
 |cons e l=>exact bE h λy g h=>mE h λz d q=>k e l y.1 y.2 rfl g (lJ (pJ q).1).1<|d.trans<|congrArg some<|Cc (lJ (pJ q).1).2 (pJ q).2
theorem lead{u:jp}{x:Str}{j h:Pos}{i:List jp}{b:Bm}{o:Ex}{p:Op}{c:RV}{Q:Value->Shared->Prop}(H:qh Z f n)(N:ay S env locs)(P:fq A n)(F:b.nm=x)(L:gB u=true)(M:(j.endLine==h.line)=true)(I:i.all notStar=true) (C:i.length<20) (O:aw Z.T k S u o=true) (R:Rel Z locs W st.r st.g s.heap) (e2:gS f o st=some (p,st')) (zz4:p.aD st'=some c) (z:xN st'.g b c=true) {id:String} (Y:PlainAttrs (Y9 b)) (X:Slot (Y9 b) b.nm id)(V:typeOf (.builtin id)=pure (.type "method_descriptor"))(k:∀a l m,eM Z locs s W st' l m->hX Z locs m l.heap p (.ref a)->(b=.get->a≠sysModules)->wpAny (model Z.prog Z.w) A (callWith h (.builtin id) [.ref a] (i.map λe=>(false,eval e env)) []) Q No l):wpAny (model Z.prog Z.w) A (eval (.Call (.Attribute u x j) i [] h) env) Q No s:=by
 subst F;have d:=du h env I;refine wpAny_Call_method_late (oD L) ?_ M d<|OP.on (jK H O N P R e2) λov l m D E=>?_
 .rw[d,Uo];refine sB.mpr ⟨sB.mpr ⟨bv.mpr λ_ _=>rfl,rfl⟩,decide_eq_true ?_⟩;exact bh C (ut ..)
 refine OH D.rel E zz4 z λa ob t J y U v=>?_;subst t;exact⟨Y9 b,id,Y,X,V,U,λa' q=>by cases q;exact⟨ob,J,y⟩,k a l m D E v⟩
theorem TN(H:qh Z f n)(he:ay S env locs)(hb:fq A n)(hx:b.nm=x)(hn:gB po=true)(hl:(apos.endLine==pos.line)=true)(hs:i.all notStar=true) (h20:i.length<20) (hc:aw Z.T k S po o=true) (hcs:cJ (aw Z.T k S) i es=true)(R:Rel Z locs W st.r st.g s.heap) (e2:gS f o st=some (p,j)) (e3:p.aD j=some c) (hbm:xN j.g b c=true) (e5:ua f es j=some (ps,I)) (e4:p.aD I=some c') (M:K2 I p c' b ps=some (rv,st')):wpAny (model Z.prog Z.w) A (eval (.Call (.Attribute po x apos) i [] pos) env) (EP Z locs s W st' rv) No s:=by
 have one:∀{y:PV}{C:Prop},ps=[y]->(∀V,i=[V]->(∀m E,eM Z locs s W j m E->∀(a:Addr)(Q:Value->Shared->Prop),hX Z locs E m.heap p (.ref a)->(∀v U W2,eM Z locs s W I U W2->hX Z locs W2 U.heap p (.ref a)->aA Z W2 y v->Q v U)->wpAny (model Z.prog Z.w) A (eval V env) Q No m)->C)->C:=λ{y _} O kk=>t9 (show ua f es j=some ([y],I) from O▸e5) λe l r st3 h0 J hr z=>yY (xu z) λX h4=>rh (show cJ (aw Z.T k S) i (e::l)=true from h0▸hcs) λV Y h5 h6 h7=>kk V (h5.trans<|congrArg _<|uq<|X▸h7) λm E h a Q u k=>EP.C9 (H.e h6 he hb h.rel J) λv U W2 d N=>k v U W2 (h4.symm▸h.trans d) (u.keep d.ext d.keep)<|hr▸N
 have none:ps=[]->i=[]/\I=j:=λO=>yY (xu<|O▸e5) λa b=>⟨uq<|a▸hcs,b⟩
 have L:=λ{id:String} J z X k=>lead (Q:=EP Z locs s W st' rv) (id:=id) H he hb hx hn hl hs h20 hc R e2 e3 hbm J z X k;induction b with
 |append=>exact bE M λy D _=>one (fP D) λV O A1=>L F.plainAttrs_list F.slot_list_append F.type_list_append λa m E h u _=>O▸P.append_list (A1 m E h a _ u λv U W2 d zz5 N=>Aa d.rel zz5 e4 N (fP D▸M) d)
 |extend=>exact bE M λy D _=>one (fP D) λV O A1=>L F.plainAttrs_list F.slot_list_extend F.type_list_extend λa m E h u _=>O▸P.extend_list (A1 m E h a _ u λv U W2 d zz5 N=>zG d.rel zz5 e4 N (fP D▸M) d)
 |index=>exact bE M λy D _=>one (fP D) λV O A1=>L F.plainAttrs_list F.slot_list_index F.type_list_index λa m E h u _=>O▸P.index_list (A1 m E h a _ u λv U W2 d zz5 N=>BG d.rel zz5 e4 N (fP D▸M) d)
 |reverse=>exact iE M λq _=>yY (none q) λJ z=>L F.plainAttrs_list F.slot_list_reverse F.type_list_reverse λa m E h u _=>J▸ju (wQ h.rel u (z▸e4) (z▸q▸M) h) λ_ _ J z X=>P.reverse_list z X J
 |pop=>
  by_cases q:ps=[]
  .exact yY (none q) λJ z=>L F.plainAttrs_list F.slot_list_pop F.type_list_pop λa m E h u _=>J▸Et (HI h.rel u (z▸e4) (z▸q▸M) h) λ_ _ _ J z X h4=>P.pop_list z X h4 J
  .exact(Mg q M).elim λy D=>one D λV O A1=>L F.plainAttrs_list F.slot_list_pop F.type_list_pop λa m E h u _=>O▸P.pop_at_list (A1 m E h a _ u λv U W2 d zz5 N=>Bc d.rel zz5 e4 N (D▸M) d)
 |get=>exact bE M λy D _=>t9 (show ua f es j=some ([y.1,y.2],I) from yu D▸e5) λe l r st3 i0 J hr z=>t9 z λe' l' r' st4 i1 h1' hr' h2'=>yY (xu h2') λi2 i3=>rh (show cJ (aw Z.T k S) i (e::l)=true from i0▸hcs) λV Y j0 X h4=>rh (show cJ (aw Z.T k S) Y (e'::l')=true from i1▸h4) λpe2 pes'' j1 h5 h6=>L F.plainAttrs_dict F.slot_dict_get F.type_dict_get λa m E h u hsm=>(j0.trans (congrArg _ (j1.trans (congrArg _ (uq (i2▸h6))))):i=[V,pe2])▸Jj (hsm rfl) hb.Wu (EP.C9 (H.e X he hb h.rel J) λv U W2 d N=>EP.C9 (H.e h5 he hb d.rel h1') λv2 s3 W3 x3 k3=>Ji x3.rel ((u.keep d.ext d.keep).keep x3.ext x3.keep) (i3▸e4) (hr▸aA.mono x3.ext.le N) (hr'▸k3) (i3▸yu D▸M) λv t q=>EP.then ((h.trans d).trans x3) q)
end
noncomputable def Gh.prom (W:Gh) (a:Addr):Gh:=⟨λb=>if b=a then some (.gl W.F.length)else W.O b,W.F++[a]⟩
section
variable{locs:List (Option Loc)} {W:Gh} {st:St}
theorem Gh.j5 (W:Gh) (a):(W.prom a).O a=some (.gl W.F.length):=by simp[Gh.prom]
theorem Gh.cy (W:Gh) (h:b≠a):(W.prom a).O b=W.O b:=by simp[Gh.prom,h]
theorem Gh.Le.prom (h:∀o,W.O a≠some (.fz o)):W.Le (W.prom a):=⟨λb o e=>by
  by_cases q:b=a
  .subst q;exact absurd e<|h o
  .exact(Gh.cy _ q).trans e,λm b e=>by
  refine(IR (ty.mp e).1).trans ?_;exact e⟩
theorem Rel.prom (R:Rel E locs W r g h) (N:∃o,h.get? a=some o) (I:W.O a=none\/∃i,W.O a=some (.mu i))(J:∀(i:Nat)(rv:RV),r'[i]?=some (some rv)->∃D v,locs[i]?=some (some D)/\bP h D v/\oG E (W.prom a) h i rv v) (M:r'.length=r.length)(c:mJ E (W.prom a) h g.length a go):Rel E locs (W.prom a) r' (g++[go]) h:=by
 have F:∀{t:cL},(∀i,t≠.mu i)->W.O a≠some t:=λq e=>I.elim (λz=>nE<|z.symm.trans e) λz=>z.elim λi z=>q i<|sJ<|e.symm.trans z
 have H:=Gh.Le.prom λo=>F (t:=.fz o) nofun;have u:∀{b:Addr}{t:cL},W.O b=some t->(∀i,t≠.mu i)->(W.prom a).O b=some t:=λ{b t} e q=>(Gh.cy _ λz=>F q<|(congrArg W.O z.symm).trans e).trans e
 have C:=R.gl.len;refine⟨λb t e=>?_,λb o e=>?_,λb o e=>u (R.base b o e) nofun,⟨by simp[Gh.prom,C],λm o e=>?_⟩,R.len.trans M.symm,λi D e=>(R.lo i D e).re λz q _=>u z q,R.ap,J⟩
 .by_cases q:b=a
  .exact q▸N
  .exact R.sz b t<|(Gh.cy _ q).symm.trans e
 .by_cases q:b=a
  .subst q;exact nomatch(sJ<|(Gh.j5 ..).symm.trans e)
  .exact R.fz b o<|(Gh.cy _ q).symm.trans e
 .rcases jw m g.length with q|q
  .exact eV (R.gl.at_ m o<|(IR q).symm.trans e) λb Q P O=>⟨b,H.gl m b Q,u P nofun,O.at_ H λ_ z=>z⟩
  .have L:m=g.length:=Pd (cj<|show m<g.length+1 from Gy (ty.mp e).1 ch) q
   subst L;exact sJ (jr.symm.trans e)▸⟨a,C▸jr,(Gh.j5 ..).trans<|congrArg (λn=>some<|cL.gl n) C,c⟩
theorem Ext.prom (C:(W.O a=none/\h.get? a=none)\/∃i,W.O a=some (.mu i)):Ext h W (W.prom a):=by
 have F:∀o,W.O a≠some (.fz o):=λo e=>by rcases C with⟨q,_⟩|⟨i,q⟩<;>(replace e:=q▸e;cases e)
 have u:∀b t,W.O b=some t->(∀i,t≠.mu i)->(W.prom a).O b=some t:=λb t e q=>(Gh.cy _ (by rintro rfl;rcases C with⟨z,_⟩|⟨i,z⟩<;>(replace e:=z▸e;cases e);exact q _<|Yv _)).trans e
 refine⟨Gh.Le.prom F,λb o D e=>?_,λb e=>u b _ e (by intro i q;cases q),λb i e=>u b _ e (by intro i q;cases q),λb i e=>u b _ e (by intro i q;cases q),λb i e=>?_,λb i e=>.inl<|u b _ e (by intro i q;cases q),λb i e=>?_⟩
 .exact(Gh.cy _ (by rintro rfl;rcases C with⟨z,E⟩|⟨i,z⟩;(rw[E]at D;exact nE D);(replace e:=z▸e;cases e))).trans e
 .by_cases q:b=a
  .subst q;exact⟨_,Gh.j5 ..,by intro j q;cases q⟩
  .rw[Gh.cy _ q];exact⟨_,e,by intro j q;cases q⟩
 .by_cases q:b=a
  .subst q;rw[Gh.j5]at e;cases e
  .rw[Gh.cy _ q]at e;exact e
theorem tj(R:Rel d locs ⟨c,b⟩ r g h):aA d (Gh.prom ⟨c,b⟩ a) (.aZ g.length) (.ref a):=⟨a,by show(b++[a])[g.length]?=some a;refine R.gl.len▸?_;exact jr,rfl⟩
theorem Ext.EU (x:Ext h W z) (E:z.O a=none) (H:h.get? a=none):Ext h W (z.prom a):=by
 have u:∀{b t},z.O b=some t->(z.prom a).O b=some t:=λ{b t} e=>(Gh.cy _ (by rintro rfl;replace e:=E▸e;exact nE e)).trans e
 refine⟨x.le.trans (Gh.Le.prom λo e=>nE (E.symm.trans e)),λb ob C e=>?_,λb e=>u (x.fr b e),λb i e=>u (x.ce b i e),λb i e=>u (x.gl b i e),λb i e=>aO (x.mu b i e) λt D I=>⟨t,u D,I⟩,λb i e=>(x.ln b i e).imp u λF=>fN F λo D=>⟨o,u D⟩,λb i e=>?_⟩
 .exact(Gh.cy _ (by rintro rfl;rw[H]at C;exact nE C)).trans<|x.new b ob C e
 .by_cases q:b=a
  .subst q;rw[Gh.j5]at e;cases e
  .rw[Gh.cy _ q]at e;exact x.lw b i e
theorem zR{e}[DecidableEq e]{b:KeyKind c.prog c.w e}{ob a m}(f:a≠sysModules)(j:h.get? a=some ob)(d:ob.IsDictOf b []):mJ c W h m a (.dict [] []):=by
 refine Zp d λl n g k _ i _=>?_;have:l= #[]:=by have:=i.length;simpa using this
 subst this;exact⟨f,ob,#[],n,[],rfl,j,g,k,rfl,by simp,by simp,by simp,trivial⟩
theorem EP.prom (x:EP L locs s W C rv v N) (F:rv.fresh?=some go):EP L locs s W {C with g:=C.g++[go]} (.v<|.aZ C.g.length) v N:=by
 obtain⟨V,H,Y,X⟩:=x;have E:∀a,v=.ref a->V.O a=none->ey L V N.heap a rv->s.heap.get? a=none->mJ L (V.prom a) N.heap C.g.length a go->EP L locs s W {C with g:=C.g++[go]} (.v<|.aZ C.g.length) v N:=by rintro a rfl D M hf c;refine aO M.eJ λo ho _=>?_;exact⟨_,⟨H.same,H.ext.EU D hf,H.keep,Rel.prom (r':=C.r) H.rel ⟨o,ho⟩ (.inl D) (λi O e=>ju (H.rel.sl i O e) λP u e1 e2 e3=>⟨P,u,e1,e2,e3.at_ (Gh.Le.prom λo e=>nE (D.symm.trans e)) λb ob z eb=>⟨by refine(Gh.cy _ (by rintro rfl;rw[D]at z;exact nE z)).trans ?_;exact z,eb⟩⟩) rfl c⟩,tj H.rel,λq=>ff q⟩
 induction rv with
 |v p=>exact nE F
 |ml t l=>obtain⟨_,a,e,D,M⟩:=Y;exact iE F λ_ F=>E a e D M (X rfl a e)<|bn F▸ey.at_ (rv:=.ml none l) M (Gh.Le.prom λo e=>nE<|D.symm.trans e) λ_ z=>z
 |md t ks vs=>
  obtain⟨_,a,e,D,M⟩:=Y;refine iE F λhc F=>E a e D M (X rfl a e)<|bn F▸?_
  have J:=eC.mp (sB.mp (sB.mp hc).2).1;obtain⟨Z,ob,I,d⟩:=M;rcases d with⟨Q,U,S,_⟩|⟨Q,U,S,_⟩
  .obtain rfl:=jb.mp<|U.symm.trans J;exact zR Z I S
  .obtain rfl:=jb.mp<|U.symm.trans J;exact zR Z I S
theorem Rv(Y:aw p.T k S L (.v i)=true)(X:ay S D locs)(R:Rel p locs W st.r st.g s.heap)(e:st.get i=some rv)(y:rv.VT=some l):wpAny (model p.prog p.w) A (eval L D) (EP p locs s W {r:=st.r.set i<|some<|.v<|.aZ st.g.length,g:=st.g++[.list l]}<|.v<|.aZ st.g.length) No s:=by
 refine nF (k8 Y) λx J c Q=>?_;subst c;refine nZ Q X R e λC v P O l3 N=>?_;induction rv with
 |ml t l'=>
  refine iE y λU V=>?_;cases bn V;obtain rfl:=cq.mp U;refine eV N λa c z M=>?_;subst c;replace z:W.O a=some (.mu i):=z;have E:=Gh.Le.prom λo e=>by replace e:=z▸e;cases e
  refine aO M.eJ λo y _=>?_;refine⟨_,⟨⟨s.heap,s.toks,rfl⟩,Ext.prom<|.inr ⟨i,z⟩,.rfl,?_⟩,tj R,λq=>ff q⟩
  refine Rel.prom (r':=st.r.set i<|some<|.v<|.aZ st.g.length) (go:=.list l) R ⟨o,y⟩ (.inr ⟨i,z⟩) (λj m f=>?_) (aU ..)<|ey.at_ (rv:=.ml none l) M E λ_ z=>z
  by_cases q:i=j
  .subst q;replace f:=(T0 (ty.mp<|get_slot e).1)▸f
   cases f;exact⟨C,_,P,O,tj R⟩
  .replace f:=(aP q)▸f;exact ju (R.sl j m f) λn u I H F=>⟨n,u,I,H,F.at_ E λb ob d Z=>⟨by refine(Gh.cy _ (by rintro rfl;replace d:=z▸d;rcases dY j m with h|h<;>(replace d:=h▸d;cases d);exact q rfl)).trans ?_;exact d,Z⟩⟩
 |_=>exact nE y
theorem Rw(H:qh b f n)(j:ay S c locs)(m:fq A n)(l:aw b.T k S h e=true)(R:Rel b locs W st.r st.g s.heap)(p:f.e e st=some (d,a))(i:d.fresh?=some o):wpAny (model b.prog b.w) A (eval h c) (EP b locs s W {a with g:=a.g++[o]}<|.v<|.aZ a.g.length) No s:=o0 (H.e l j m R p) (λ_ _ q=>q.prom i) λ_ _ z=>z
end
section
variable{Z:Cx} {locs:List (Option Loc)} {A:dA} {W W':Gh} {s s':Shared} {h:Heap} {st st':St} {f:iU} {n k:Nat} {S:iy} {env:Env}
theorem Rel.tagged (R:Rel Z locs W r g h) (k:∀b t o,W.O b=some t->h.get? b=some o->O.get? b=some o):Rel Z locs W r g O where
 sz a t e:=by obtain⟨o,C⟩:=R.sz a t e;exact⟨o,k a t o e C⟩
 fz a o e:=k a _ o e<|R.fz a o e
 base:=R.base
 gl:=⟨R.gl.len,λn o e=>by exact eV (R.gl.at_ n o e) λa E D J=>⟨a,E,D,J.at_ .rfl λN P=>k a _ N D P⟩⟩
 len:=R.len
 lo i u e:=by
  have:=R.lo i u e;induction u with
  |d L y=>obtain⟨z,m,o,H,I,C,q⟩:=this;exact⟨z,m,o,H,I,k _ _ _ z C,q⟩
  |c a=>obtain⟨z,v,o,C,q⟩:=this;exact⟨z,v,o,k _ _ _ z C,q⟩
 ap:=R.ap
 sl i M e:=by
  refine ju (R.sl i M e) λu v E D J=>?_;have l:=R.lo i u E;refine⟨u,v,E,?_,J.at_ .rfl λa o z e=>⟨z,k a _ o z e⟩⟩;induction u with
  |d L y=>refine aO D λm F e=>xY F λo H I C q=>?_;exact⟨m,⟨o,H,I,k _ _ _ l.1 C,q⟩,e⟩
  |c a=>refine aO D λo C q=>?_;exact⟨o,k _ _ _ l.1 C,q⟩
theorem keys_nodup{b:List (Str×Value)}(h:qK (b.map λx=>.str x.1)=true):(b.map (·.1)).Nodup:=by
 induction b with
 |nil=>exact .nil
 |cons x l d=>
  refine aE h λm j=>Wp.mpr ⟨λi=>?_,d j⟩;refine aO (to.mp i) λy g e=>?_;have c:=gH (λa:Str×Value=>decide<|a.1=x.1) (λa=>.str a.1) (.str x.1) l λ_ _=>rfl
  rw[GC.mpr ⟨y,g,decide_eq_true e⟩,cq.mp m]at c;exact ff c.symm
theorem w4{a:List (Str×Value)}(h:((a++b).map (·.1)).Nodup):merged a b=a++b:=by
 induction b generalizing a with
 |nil=>simp[merged]
 |cons x l d=>
  have i:(a.any λc=>decide<|c.1=x.1)=false:=by rw[dI];intro y g e;rw[AC,GA]at h;exact h.2.2 y.1 (to.mpr ⟨y,g,rfl⟩) x.1 (by simp)<|of_decide_eq_true e
  have:merged a (x::l)=merged (stored a x.1 x.2) l:=by simp[merged]
  rw[this,(by delta stored;exact(if_neg (by rw[i];decide)):stored a x.1 x.2=a++[x]),d (by simpa using h)];simp
inductive Zm(Z:Cx)(locs:List (Option Loc))(s:Shared)(W:Gh)(st':St)(e d:List PV)(b:List (Value×Value))(s':Shared):Prop
 |mk (W':Gh) (x:eM Z locs s W st' s' W') (a:List (Str×Value)) (c:Carries (strKind Z.prog Z.w) b a) (q:e=a.map (λx=>.str x.1)) (h:ah Z W' d (a.map (·.2))):Zm Z locs s W st' e d b s'
theorem rC(h:keysOf (ke::ks)=some b):∃x a,ke=.c (.str x)/\keysOf ks=some a/\b=.str x::a:=bE h λx j h=>mE h λy i g=>bE j λp e d=>⟨x,y,PV.sY d▸Ex.TA e,i,g.symm⟩
theorem EY(B:lu Z)(H:qh Z f n)(U:ay S env locs)(hb:fq A n){j b}:∀{a ks i l d W st st' s},b.all (·.isSome)=true->cJ (aw Z.T k S) (b.filterMap id) ks=true->cJ (aw Z.T k S) a i=true->b.length=a.length->keysOf ks=some l->Rel Z locs W st.r st.g s.heap->ua f i st=some (d,st')->wpAny (model Z.prog Z.w) A (evalPairs<|pairTrees b a env j) (Zm Z locs s W st' l d) No s:=by
 induction b with
 |nil=>
  intro a ks i l d W st st' s O p o m I R e;induction a with
  |cons=>exact nomatch m
  |nil=>induction ks with
   |cons=>exact ff p
   |nil=>induction i with
    |cons=>exact ff o
    |nil=>
     refine Pz e (D:=λd st'=>wpAny (model Z.prog Z.w) A (evalPairs<|pairTrees [] [] env j) (Zm Z locs s W st' l d) No s) ?_
     exact sJ I▸pairTrees_nil_walk ⟨W,.n8 R,[],trivial,rfl,trivial⟩
 |cons ok b ih=>
  intro a ks i l d W st st' s O p o m I R e;induction ok with
  |none=>exact ff O
  |some zz6=>cases a with
   |nil=>exact nomatch m
   |cons X a=>cases ks with
    |nil=>exact ff p
    |cons ke ks=>cases i with
     |nil=>exact ff o
     |cons v i=>
      refine aE p λN M=>aE o λL J=>ju (rC I) λx F C h6 u=>?_;subst C u;refine bE e λy e2 e=>mE e λz e3 q=>pE (D:=λd st'=>wpAny (model Z.prog Z.w) A (evalPairs<|pairTrees (some zz6::b) (X::a) env j) (Zm Z locs s W st' (.str x::F) d) No s) q ?_
      refine pairTrees_cons_walk<|o0 (JX B N U R) (λkv s0 h=>?_) λ_ _ z=>z
      obtain⟨t,rfl⟩:∃t,kv=.str x t:=h.1;exact EP.C9 (H.e (st':=y.2) L U hb (h.2.EA R).rel e2) λV s1 W1 Q v1=>o0 (ih (st':=z.2) O M J (fg m) h6 Q.rel e3) (λY s2 c=>by obtain⟨W2,P,E,c1,c2,c3⟩:=c;exact⟨W2,((h.2.EA R).trans Q).trans P,(x,V)::E,⟨nQ ..,rfl,c1⟩,congrArg _ c2,ah.cons (aA.mono P.ext.le v1) c3⟩) λ_ _ z=>z
theorem Br:∀{b},keysOf a=some b->b.length=a.length:=by
 induction a with
 |nil=>intro _ h;obtain rfl:=sJ h;rfl
 |cons _ _ g=>intro _ h;refine ju (rC h) λx e d i c=>?_;subst c;exact congrArg (· +1)<|g i
theorem vk:∀{l:List (Option jp)},l.all (·.isSome)=true->(l.filterMap id).length=l.length
 |[],_=>rfl
 |none::_,h=>ff h
 |some _::l,h=>congrArg (· +1)<|vk (l:=l) h
theorem Rd(B:lu Z)(R:Rel Z locs W st.r st.g s.heap):s.heap.objs.size≠sysModules:=λq=>by obtain⟨o,a⟩:=B.Zy;have:=ec R _ _ a;replace this:=(j7 s.heap)▸q▸this;exact nE this
theorem Of(B:lu Z)(H:qh Z f n)(he:ay S env locs)(hb:fq A n)(P:c.all (·.isSome)=true) (h2:cJ (aw Z.T k S) (c.filterMap id) ks=true) (zz7:cJ (aw Z.T k S) d vs=true) (O:c.length=d.length) (R:Rel Z locs W st.r st.g s.heap) (e1:keysOf ks=some j) (e2:ua f vs st=some (ps,st'))(Y:qK j=true) (V:j.length<=15):wpAny (model Z.prog Z.w) A (eval (.Dict c d pos) env) (EP Z locs s W st'<|.md none j ps) No s:=by
 have D:=j7 s.heap;have L:=R.bA D;have l:=Rd B R;have p:c.length=j.length:=by rw[Br e1,<-JR h2,vk P]
 have F:∀{cls:Obj},eM Z locs s W st {s with heap:=s.heap.push cls} W:=λ{cls}=>eM.grow (tk:=s.toks) R<|.push _ _
 induction M:c with
 |nil=>
  subst M;obtain rfl:=yi.mp p.symm;obtain rfl:=yi.mp O.symm;obtain rfl:=eC.mp zz7;obtain⟨rfl,rfl⟩:=se e2;refine wpAny_Dict_empty ⟨W,F,⟨rfl,_,rfl,L,?_⟩,λ_ a q=>by cases q;exact D⟩
  exact aO (ct.mp<|Am (knd:=intKind Z.prog Z.w) s.heap) λo m N=>⟨l,o,m,.inl ⟨[],rfl,N,Rs _,trivial⟩⟩
 |cons k0 kr=>
  refine M▸?_;refine wpAny_Dict_walk (knd:=strKind Z.prog Z.w) P O (M▸nofun) (by omega) ?_
  refine o0 (EY (s:={s with heap:=s.heap.push {cls:=.type "dict",data:=.dict #[]}}) B H he hb P h2 zz7 O e1 F.rel e2) (λI U q=>?_) λ_ _ z=>z
  obtain⟨W1,E,e,c1,Q,c3⟩:=q;have hD:U.heap.DictOf (strKind Z.prog Z.w) s.heap.objs.size []:=by exact aO (ct.mp<|Am (knd:=strKind Z.prog Z.w) s.heap) λo m N=>ct.mpr ⟨o,E.keep.free _ _ m L,N⟩
  refine⟨e,c1,hD,λh' v C=>?_⟩;have y:=E.ext.new _ _ (On s.heap (o:={cls:=.type "dict",data:=.dict #[]}) rfl) L;have X:=F.trans E;refine jF X.same λh1' t1' es=>?_;rw[w4 (by rw[Q]at Y;exact keys_nodup Y)]at v
  refine aO (ct.mp v) λo m u=>?_;have J:∀b o,s.heap.get? b=some o->b≠s.heap.objs.size:=λb o q z=>by subst z;replace q:=D▸q;exact nE q
  have x:e.length<=az:=by
   have:e.length=j.length:=by rw[Q,im]
   delta az;omega
  exact⟨W1,⟨⟨h',U.toks+I.length,by rw[es]⟩,X.ext,⟨λb o q z=>(C.2 b (J b o q)).trans (X.keep.free b o q z),λb o q z=>(C.2 b (J b o q)).trans (X.keep.fr b o q z),λb o i q z=>(C.2 b (J b o q)).trans (X.keep.ce b o i q z)⟩,X.rel.tagged λb t o q z=>(C.2 b (by rintro rfl;replace q:=y▸q;exact nE q)).trans z⟩,⟨rfl,_,rfl,y,l,o,m,.inr ⟨e,Q,u,x,c3⟩⟩,λ_ a q=>by cases q;exact D⟩
end
def rI(h b:Heap)(v:Value):Loc->Prop
 |.d L x=>∃m,h.Ns L m/\b.Ns L (λy=>if y=x then some v else m y)/\cR L h b
 |.c a=>b.IsCell a (some v)/\cR a h b
noncomputable def Loc.at_:Loc->Addr
 |.d L _=>L
 |.c a=>a
section
variable(Z:Cx)
structure rV(locs:List (Option Loc))(s:Shared)(W:Gh)(st':St)(s':Shared)(W':Gh):Prop where
 same:∃h' tk',s'={s with heap:=h',toks:=tk'}
 ext:Ext s.heap W W'
 keep:mH W s.heap s'.heap
 rel:Rel Z locs W' st'.r st'.g s'.heap
def F6(s:Shared)(W:Gh)(c:Shared)(b:Gh):RV->Value->Prop
 |.v x,u=>aA Z b x u
 |x,u=>x.tag=none/\∃a,u=.ref a/\(b.O a=none\/∃i,b.O a=some (.mu i))/\ey Z b c.heap a x/\(s.heap.get? a=none\/∃i,W.O a=some (.mu i))
def QH(s:Shared)(W:Gh)(a:Shared)(b:Gh):Fl->Flow->Prop
 |.dK,v=>v=.next
 |.brk,v=>v=.brk
 |.cnt,v=>v=.cont
 |.ret r,v=>∃u,v=.ret u/\F6 Z s W a b r u
inductive FP(locs:List (Option Loc))(s:Shared)(W:Gh)(a:St)(c:Fl)(v:Flow)(b:Shared):Prop
 |mk (d:Gh) (x:rV Z locs s W a b d) (h:QH Z s W b d c v):FP locs s W a c v b
end
section
variable{Z:Cx} {locs:List (Option Loc)} {st:St}
theorem eM.toS (x:eM Z locs s W q u z):rV Z locs s W q u z:=⟨x.same,x.ext,x.keep.toS,x.rel⟩
theorem rV.trans (x:rV Z locs s W C s' H) (y:rV Z locs s' H st'' q u):rV Z locs s W st'' q u:=by refine jF x.same λJ I F=>?_;exact jF y.same λD z E=>⟨⟨D,z,by rw[E,F]⟩,x.ext.Cv y.ext x.keep.free,x.keep.trans y.keep x.ext,y.rel⟩
theorem rV.n8 (x:Rel Z locs W st.r st.g s.heap):rV Z locs s W st s W:=(eM.n8 x).toS
theorem rV.back (x:rV Z locs s W J I H) (R:Rel Z locs W r g s.heap) (y:I.heap.get? a=none\/∃i,H.O a=some (.mu i)):s.heap.get? a=none\/∃i,W.O a=some (.mu i):=by
 induction e:s.heap.get? a with
 |none=>exact .inl rfl
 |some o=>
  refine .inr ?_;have C:∀t,H.O a=some t->I.heap.get? a=none->False:=λt z D=>by obtain⟨E,F⟩:=x.rel.sz a t z;replace D:=F▸D;cases D
  have u:∀t,H.O a=some t->(∀i,t≠.mu i)->False:=λt z n=>by
   rcases y with y|⟨i,y⟩
   .exact C t z y
   .replace y:=z▸y;obtain rfl:=sJ y;exact n i rfl
  induction q:W.O a with
  |none=>
   exfalso;rcases y with y|⟨i,y⟩
   .replace y:=(x.keep.free a o e q)▸y;cases y
   .replace y:=(x.ext.new a o e q)▸y;exact nE y
  |some t=>
   induction t with
   |mu i=>exact⟨i,rfl⟩
   |fz E=>exact(u _ (x.ext.le.fz a E q) (by intro i z;cases z)).elim
   |gl m=>exact(u _ (x.ext.gl a m q) (by intro i z;cases z)).elim
   |fr=>exact(u _ (x.ext.fr a q) (by intro i z;cases z)).elim
   |ce i=>exact(u _ (x.ext.ce a i q) (by intro i z;cases z)).elim
   |le i=>
    rcases x.ext.ln a i q with z|⟨E,z⟩
    .exact(u _ z (by intro i z;cases z)).elim
    .exact(u _ z (by intro i z;cases z)).elim
theorem F6.back (x:rV Z locs s W I J L) (R:Rel Z locs W r g s.heap) (y:F6 Z J L q F H u):F6 Z s W q F H u:=by
 induction H with
 |v p=>exact y
 |ml t l=>obtain⟨e,a,E,D,C,z⟩:=y;exact⟨e,a,E,D,C,x.back R z⟩
 |md t ks M=>obtain⟨e,a,E,D,C,z⟩:=y;exact⟨e,a,E,D,C,x.back R z⟩
theorem FP.then (x:rV Z locs s W F H I) (R:Rel Z locs W r g s.heap) (y:FP Z locs H I st'' D v C):FP Z locs s W st'' D v C:=by
 obtain⟨W2,E,z⟩:=y;refine⟨W2,x.trans E,?_⟩;induction D with
 |dK=>exact z
 |brk=>exact z
 |cnt=>exact z
 |ret J=>refine aO z λu e q=>?_;exact⟨u,e,q.back x R⟩
theorem FP.next (x:rV Z locs s W q u z):FP Z locs s W q .dK .next u:=⟨z,x,rfl⟩
theorem Rel.AR (x:Rel Z locs W r g h) (M:W.O a=none) (P:∃o,h.get? a=some o) (O:∀o,t≠.fz o):Rel Z locs (W.tag a<|some t) r g h:=by
 have J:W.Le (W.tag a<|some t):=.tag λE e=>by replace e:=M▸e;exact nE e
 have u:∀b D,W.O b=some D->(W.tag a<|some t).O b=some D:=λb D e=>(Gh.ag _ _ (by rintro rfl;replace e:=M▸e;exact nE e)).trans e
 refine⟨λb D e=>?_,λb E e=>?_,λb E e=>u b _<|x.base b E e,⟨x.gl.len,λn Q e=>?_⟩,x.len,λi C e=>?_,x.ap,λi N e=>?_⟩
 .by_cases q:b=a
  .subst q;exact P
  .rw[Gh.ag _ _ q]at e;exact x.sz b D e
 .by_cases q:b=a
  .subst q;rw[Gh.aG]at e;obtain rfl:=sJ e;exact absurd rfl<|O E
  .rw[Gh.ag _ _ q]at e;exact x.fz b E e
 .exact eV (x.gl.at_ n Q e) λb I H F=>⟨b,I,u b _ H,F.at_ J λ_ e=>e⟩
 .have:=x.lo i C e;induction C with
  |d L y=>exact⟨u _ _ this.1,this.2⟩
  |c b=>exact⟨u _ _ this.1,this.2⟩
 .exact ju (x.sl i N e) λC v I H F=>⟨C,v,I,H,F.at_ J λb o z e=>⟨u b _ z,e⟩⟩
theorem gn.tag (x:gn W h i q):∃t,W.O q.at_=some t/\(t=.fr\/t=.ce i):=by
 induction q with
 |d L y=>exact⟨_,x.1,.inl rfl⟩
 |c b=>exact⟨_,x.1,.inr rfl⟩
theorem rI.same (x:rI h z v u):cR u.at_ h z:=by
 induction u with
 |d L y=>refine eV x λ_ _ _ q=>?_;exact q
 |c b=>exact x.2
theorem rI.val (x:rI h z v u):bP z u v:=by
 induction u with
 |d L y=>refine eV x λ_ _ q _=>?_;exact⟨_,q,by simp⟩
 |c b=>exact x.1
theorem SameBut.keep (x:cR a h u) (q:b≠a) (e:h.get? b=some o):u.get? b=some o:=(x.2 b q).trans e
theorem gn.sameBut (x:gn W h i u) (C:cR a h D) (q:u.at_≠a):gn W D i u:=by
 induction u with
 |d=>exact⟨x.1,x.2.elim λm z=>⟨m,z.sameBut C q⟩⟩
 |c=>exact⟨x.1,x.2.elim λm z=>⟨m,z.sameBut C q⟩⟩
theorem bP.sameBut (x:bP h u v) (z:cR a h D) (q:u.at_≠a):bP D u v:=by
 induction u with
 |d=>exact aO x λm C E=>⟨m,C.sameBut z q,E⟩
 |c=>exact Heap.IsCell.sameBut x z q
theorem Xn{C:Prop}(h:some cL.fr=some (.ce i)):C:=nomatch h
theorem rI.BK (P:rI h I v C) (F:gn W h i C) (D:gn W h j l) (q:l.at_=C.at_):gn W I j l/\∀u,i≠j->C≠l->bP h l u->bP I l u:=by
 induction C with
 |d L x=>induction l with
  |d Q y=>refine eV P λm N H _=>?_;replace q:Q=L:=q;subst q;exact⟨⟨D.1,_,H⟩,λu _ E z=>aO z λS M J=>⟨_,H,(if_neg λz:y=x=>E<|z▸rfl).trans<|congrFun (N.eq_nsMap.trans M.eq_nsMap.symm) y▸J⟩⟩
  |c=>exact Xn<|F.1.symm.trans<|(congrArg W.O q.symm).trans D.1
 |c b=>induction l with
  |d=>exact Xn<|D.1.symm.trans<|(congrArg W.O q).trans F.1
  |c O=>
   have z:i=j:=cL.ce.inj<|sJ<|F.1.symm.trans<|(congrArg W.O q.symm).trans D.1
   exact⟨⟨D.1,_,(show O=b from q)▸P.1⟩,λu E _ _=>absurd z E⟩
theorem Rel.put (R:Rel Z locs W r g h) (E:locs[i]?=some (some u)) (P:rI h U v u) (hv:oG Z W h i rv v):Rel Z locs W (r.set i<|some rv) g U/\mH W h U:=by
 refine aO ((R.lo i u E).tag) λt0 a h0=>?_;have D:=P.same;have N:∀b t,W.O b=some t->t≠.fr->t≠.ce i->b≠u.at_:=λb t e q1 M z=>have z:=sJ<|a.symm.trans<|(congrArg W.O z.symm).trans e;h0.elim (λq=>q1<|z.symm.trans q) λq=>M<|z.symm.trans q
 have H:∃o,U.get? u.at_=some o:=by
  induction u with
  |d L y=>exact eV P λ_ _ Q _=>xY Q λo _ _ I _=>⟨o,I⟩
  |c b=>exact aO P.1 λo I _=>⟨o,I⟩
 have S:i<r.length:=R.len▸(ty.mp E).1;have Y:∀{j:Nat}{rv:RV}{b:Addr},W.O b=some (bV j rv)->b≠u.at_:=λ{j rv b} z=>(dY j rv).elim (λh=>N b _ (z.trans<|congrArg some h) nofun nofun) λh=>N b _ (z.trans<|congrArg some h) nofun nofun
 refine⟨⟨λb t e=>?_,λb o e=>SameBut.keep D (N b _ e nofun nofun) (R.fz b o e),R.base,⟨R.gl.len,λm go e=>?_⟩,R.len.trans aU.symm,λj C e=>?_,R.ap,λj O e=>?_⟩,⟨λb o e z=>SameBut.keep D (λq=>nE (z.symm.trans ((congrArg W.O q).trans a))) e⟩⟩
 .by_cases q:b=u.at_
  .exact q▸H
  .obtain⟨o,I⟩:=R.sz b t e;exact⟨o,SameBut.keep D q I⟩
 .exact eV (R.gl.at_ m go e) λb F J V=>⟨b,F,J,V.at_ .rfl λo z=>SameBut.keep D (N b _ J nofun nofun) z⟩
 .by_cases q:C.at_=u.at_
  .exact(P.BK (R.lo i u E) (R.lo j C e) q).1
  .exact(R.lo j C e).sameBut D q
 .by_cases q:i=j
  .subst q;replace e:=(T0 S)▸e;refine(sJ<|sJ e)▸⟨u,v,E,P.val,hv.at_ .rfl λb o z e=>⟨z,SameBut.keep D (Y z) e⟩⟩
  .replace e:=(aP q)▸e;refine ju (R.sl j O e) λC X F J V=>?_;refine⟨C,X,F,?_,V.at_ .rfl λb o z e=>⟨z,SameBut.keep D (Y z) e⟩⟩;by_cases M:C.at_=u.at_
   .exact(P.BK (R.lo i u E) (R.lo j C F) M).2 X q (λz=>by subst z;induction u with|d L x=>exact q (R.ap i j L x E F)|c b=>exact q<|cL.ce.inj<|sJ<|(R.lo i _ E).1.symm.trans (R.lo j _ F).1) J
   .exact J.sameBut D M
theorem tG(p:ay S e locs)(l:uC e x b)(o:gn W s.heap i b)(k:e.kindOf x≠some .free)(h:∀f q,rI s.heap f v b->Q () {s with heap:=f,toks:=q}):wpAny (model Z.prog Z.w) A (storeName e x v) Q E s:=by
 induction b with
 |d L y=>obtain⟨hk,rfl,rfl⟩:=l;obtain⟨_,m,n⟩:=o;exact wpAny_storeName_local hk n (λf j g=>h f _ ⟨m,n,j,g⟩) (by refine p.kind▸?_;rfl)
 |c a=>
  obtain⟨hk,t⟩:=l;obtain⟨_,v0,r⟩:=o;rcases hk with hk|hk
  .exact wpAny_storeName_cell p.kind hk t r λf j g=>h f s.toks ⟨j,g⟩
  .exact absurd hk k
end
def gA(e:jp):Bool:=!(co (view e).tag 15||(co (view e).tag 18||co (view e).tag 19))
noncomputable def BC:Ex->Bool
 |.comp ..=>true
 |_=>false
def oV(e:jp):Bool:=!(co (view e).tag 12&&(view e).es.all (constantsAlone 8))
noncomputable def iR(f:nR->Sm->Bool)(l:List nR)(m:List Sm):Bool:=match l with
 |[]=>m.isEmpty
 |a::l=>(match m with|b::m=>f a b&&iR f l m|[]=>false)
structure VwS where
 tag:Nat
 ts:List jp
 o:Option jp
 e1:jp
 e2:jp
 op:fX
 b1:List nR
 b2:List nR
 p:Pos
def Pk:VwS:=⟨0,[],none,e0,e0,.Add,[],[],default⟩
def cE:nR->VwS
 |.Assign ts v p=>{Pk with tag:=1,ts:=ts,e1:=v,p:=p}
 |.AugAssign t op v p=>{Pk with tag:=2,e1:=t,op:=op,e2:=v,p:=p}
 |.For t i b o p=>{Pk with tag:=3,e1:=t,e2:=i,b1:=b,b2:=o,p:=p}
 |.While t b o p=>{Pk with tag:=4,e1:=t,b1:=b,b2:=o,p:=p}
 |.If t b o p=>{Pk with tag:=5,e1:=t,b1:=b,b2:=o,p:=p}
 |.Return v p=>{Pk with tag:=6,o:=v,p:=p}
 |.Expr v p=>{Pk with tag:=7,e1:=v,p:=p}
 |_=>Pk
noncomputable def qw(a:nR)(v:VwS):List Prop:=[True,a=.Assign v.ts v.e1 v.p,a=.AugAssign v.e1 v.op v.e2 v.p,a=.For v.e1 v.e2 v.b1 v.b2 v.p,a=.While v.e1 v.b1 v.b2 v.p,a=.If v.e1 v.b1 v.b2 v.p,a=.Return v.o v.p,a=.Expr v.e1 v.p]
theorem GR(a):((qw a<|cE a)[(cE a).tag]?).getD True:=by cases a<;>first|exact rfl|trivial
theorem GQ(n)(h:(cE a).tag=n):((qw a<|cE a)[n]?).getD True:=h▸GR a
theorem vS{n:Nat}{C:Prop}(h:(co (cE a).tag n&&b)=true)(k:((qw a<|cE a)[n]?).getD True->b=true->C):C:=aE h λd c=>k (GQ n<|ii d) c
def aan(T:mD)(n:Nat)(S:iy)(b:XZ)(e:Ex)(t v:jp):Bool:=match b with
 |.v i=>co (view t).tag 10&&(S.xZ (view t).nm i&&(gA v||BC e))
 |.ns a=>co (view t).tag 12&&(nM S (view t).es a&&(decide a.Nodup&&(gA v&&oV v)))
 |.sub o i=>co (view t).tag 9&&(tC (view t).e2&&(aw T n S (view t).e1 o&&aw T n S (view t).e2 i))
 |.dw o x=>co (view t).tag 8&&(decide (x=(view t).nm)&&(T.AN.contains (view t).nm&&aw T n S (view t).e1 o))
def Qx(T:mD)(n:Nat)(r:nR->Sm->Bool)(S:iy)(b:Sm)(a:nR):Bool:=match b with
 |.bad=>true
 |.asg f e=>co (cE a).tag 1&&(aw T n S (cE a).e1 e&&(oneOf (cE a).ts).any λt=>aan T n S f e t (cE a).e1)
 |.aug i op e=>co (cE a).tag 2&&(decide (op=(cE a).op)&&((decide (op=.Add)||(decide (op=.Sub)||decide (op=.BitOr)))&&(aw T n S (cE a).e2 e&&(co (view (cE a).e1).tag 10&&S.xZ (view (cE a).e1).nm i))))
 |.bB t g d=>co (cE a).tag 3&&(rg S (cE a).e1 t&&(eS (cE a).e2&&((cE a).b2.isEmpty&&(aw T n S (cE a).e2 g&&iR r (cE a).b1 d))))
 |.g7 c d=>co (cE a).tag 4&&((cE a).b2.isEmpty&&(aw T n S (cE a).e1 c&&iR r (cE a).b1 d))
 |.aN c x y=>co (cE a).tag 5&&(aw T n S (cE a).e1 c&&(iR r (cE a).b1 x&&iR r (cE a).b2 y))
 |.ret e=>co (cE a).tag 6&&(cE a).o.any λv=>aw T n S v e
 |.ex e=>co (cE a).tag 7&&(gA (cE a).e1&&aw T n S (cE a).e1 e)
noncomputable def xJ(T:mD):Nat->iy->nR->Sm->Bool
 |0,_,_,_=>false
 |n+1,S,a,b=>Qx T n (xJ T n S) S b a
inductive kB(T:mD)(n:Nat)(r:nR->Sm->Bool)(S:iy):nR->Sm->Prop
 |bad {a:nR}:kB T n r S a .bad
 |av {x:Str} {b p:Pos} {v:jp} {i:Nat} {e:Ex} (h:aw T n S v e=true) (j:S.xZ x i=true) (f:(gA v||BC e)=true):kB T n r S (.Assign [.Name x b] v p) (.asg (.v i) e)
 |an {y:List jp} {A:Nat} {b p:Pos} {v:jp} {m:List Nat} {e:Ex} (h:aw T n S v e=true) (j:nM S y m=true) (f:m.Nodup) (u:gA v=true) (C:oV v=true):kB T n r S (.Assign [.Tuple y A b] v p) (.asg (.ns m) e)
 |as {g k:jp} {b p:Pos} {v:jp} {o i:Ex} {e:Ex} (h:aw T n S v e=true) (j:tC k=true) (f:aw T n S g o=true) (u:aw T n S k i=true):kB T n r S (.Assign [.Subscript g k b] v p) (.asg (.sub o i) e)
 |aa {g:jp} {x:Str} {b p:Pos} {v:jp} {o:Ex} {e:Ex} (h:aw T n S v e=true) (j:T.AN.contains x=true) (f:aw T n S g o=true):kB T n r S (.Assign [.Attribute g x b] v p) (.asg (.dw o x) e)
 |aug {x:Str} {b p:Pos} {op:fX} {v:jp} {i:Nat} {e:Ex} (w:op=.Add\/op=.Sub\/op=.BitOr) (h:aw T n S v e=true) (j:S.xZ x i=true):kB T n r S (.AugAssign (.Name x b) op v p) (.aug i op e)
 |bB {q l:jp} {d:List nR} {p:Pos} {t:Tg} {e:Ex} {c:List Sm} (w:rg S q t=true) (j:eS l=true) (h:aw T n S l e=true) (f:iR r d c=true):kB T n r S (.For q l d [] p) (.bB t e c)
 |g7 {t:jp} {d:List nR} {p:Pos} {e:Ex} {c:List Sm} (h:aw T n S t e=true) (f:iR r d c=true):kB T n r S (.While t d [] p) (.g7 e c)
 |aN {t:jp} {d z:List nR} {p:Pos} {e:Ex} {c s:List Sm} (h:aw T n S t e=true) (f:iR r d c=true) (u:iR r z s=true):kB T n r S (.If t d z p) (.aN e c s)
 |ret {v:jp} {p:Pos} {e:Ex} (h:aw T n S v e=true):kB T n r S (.Return (some v) p) (.ret e)
 |ex {v:jp} {p:Pos} {e:Ex} (w:gA v=true) (h:aw T n S v e=true):kB T n r S (.Expr v p) (.ex e)
theorem JP(h:Qx T n r S b a=true):kB T n r S a b:=by
 cases b with
 |bad=>exact .bad
 |asg p e=>
  refine vS h λq h=>aE h λk j=>oE j λt w d=>q▸fP w▸?_;induction p with
  |v i=>exact vT d λq d=>aE d λd f=>q▸.av k d f
  |ns C=>exact vT d λq d=>aE d λd f=>aE f λf g=>aE g λg m=>q▸.an k d (dT f) g m
  |sub o i=>exact vT d λq d=>aE d λd f=>aE f λf g=>q▸.as k d f g
  |dw o x=>exact vT d λq d=>aE d λd f=>aE f λf g=>q▸dT d▸.aa k (dT d▸f) g
 |aug i op e=>exact vS h λq h=>aE h λd h=>aE h λj h=>aE h λh f=>vT f λs f=>q▸s▸(dT d).symm▸dT d▸.aug ((FM.mp j).imp dT λh=>(FM.mp h).imp dT dT) h f
 |bB t A z=>exact vS h λq h=>aE h λj h=>aE h λd h=>aE h λf h=>aE h λh g=>eE f λl=>q▸l▸.bB j d h g
 |g7 c z=>exact vS h λq h=>aE h λf h=>aE h λh g=>eE f λl=>q▸l▸.g7 h g
 |aN c x y=>exact vS h λq h=>aE h λh g=>aE g λg m=>q▸.aN h g m
 |ret e=>exact vS h λq h=>oE h λv u h=>q▸u▸.ret h
 |ex e=>exact vS h λq h=>aE h λj h=>q▸.ex j h
section
variable{Z:Cx} {locs:List (Option Loc)} {A:dA} {W W':Gh} {s s':Shared} {st st':St} {f:iU} {n k:Nat} {S:iy} {env:Env}
inductive UD(Z:Cx)(locs:List (Option Loc))(s:Shared)(W:Gh)(st':St)(d:RV)(b:Value)(s':Shared)(C:Addr):Prop
 |mk (W':Gh) (x:eM Z locs s W st' s' W') (t:ky Z W' s'.heap d b) (f:gj d=true->∀a,b=.ref a->s.heap.get? a=none) (c:W'.O C=none) (e:s.heap.get? C=none) (g:b≠.ref C) (ns:∃m,s'.heap.Ns C m):UD Z locs s W st' d b s' C
structure jV(Z:Cx)(f:iU)(n:Nat):Prop extends qh Z f n where
 iT:∀{k:Nat}{S:iy}{ps:List nR}{ms:List Sm}{env:Env}{locs:List (Option Loc)}{A:dA}{W:Gh}{st st':St}{s:Shared}{fl:Fl},iR (xJ Z.T k S) ps ms=true->ay S env locs->fq A n->Rel Z locs W st.r st.g s.heap->f.iT ms st=some (fl,st')->wpAny (model Z.prog Z.w) A (execs ps env) (FP Z locs s W st' fl) No s
 cu:∀{k:Nat}{S:iy}{pelt:jp}{gens:List NE}{scope:ng}{pos:Pos}{elt:Ex}{gs:List (Tg×Ex×List Ex)}{env:Env}{locs:List (Option Loc)}{A:dA}{W:Gh}{st st':St}{s:Shared}{rv:RV} {use:Option (Value->Sem Unit)} {Q:Value->Shared->Prop},aw Z.T k S (.ListComp pelt gens scope pos) (.comp elt gs)=true->ay S env locs->fq A n->Rel Z locs W st.r st.g s.heap->f.e (.comp elt gs) st=some (rv,st')->(∀acc C s',UD Z locs s W st' rv acc s' C->compPost (model Z.prog Z.w) A No use Q acc C (.ok .next) s')->wpAny (model Z.prog Z.w) A (comprehension (.ListComp pelt gens scope pos) scope env (firstIterPos gens pos) (newList []) (firstAsync gens) (firstIter gens env) use) Q No s
theorem CM(h:S.xZ x i=true):S.loc x i=true/\S.sc.lookup x≠some .free:=aE h λh k=>⟨h,dT k⟩
theorem yC(b:ay S env locs)(h:S.xZ x i=true):∃a,locs[i]?=some (some a)/\uC env x a/\env.kindOf x≠some .free:=by refine AH (CM h) λg e=>?_;exact aO (b.loc x i<|dT (sB.mp (sB.mp g).1).1) λa d c=>⟨a,d,c,b.nfr x e⟩
def uz(locs:List (Option Loc))(C:Addr)(i:Nat):Prop:=∃y,locs[i]?=some (some<|.d C y)
inductive TS(Z:Cx)(locs:List (Option Loc))(s:Shared)(W:Gh)(st':St)(a:List Nat)(s':Shared):Prop
 |mk (x:rV Z locs s W st' s' W) (k:∀C,(∀i∈a,uz locs C i)->fA C s.heap s'.heap):TS Z locs s W st' a s'
theorem TS.on {Q:I->Shared->Prop} (h:wpAny (model Z.prog Z.w) A t (λ_=>TS Z locs s W st' H) No D) (k:∀u F,rV Z locs s W st' F W->(∀C,(∀i∈H,uz locs C i)->fA C s.heap F.heap)->Q u F):wpAny (model Z.prog Z.w) A t Q E D:=o0 h (λu F q=>by induction q with|mk x y=>exact k u F x y) λ_ _ z=>z.elim
theorem wH(c:ay S env locs)(l:S.xZ x i=true)(R:Rel Z locs W st.r st.g s.heap)(m:aA Z W p v):wpAny (model Z.prog Z.w) A (storeName env x v) (λ_=>TS Z locs s W (st.put i<|some<|.v p) [i]) No s:=by
 refine eV (yC c l) λa b e d=>?_;refine tG c e (R.lo i a b) d λu t P=>?_;obtain⟨q,h⟩:=R.put b P (rv:=.v p) m;refine⟨⟨⟨_,_,rfl⟩,.rfl,h,q⟩,λC o=>?_⟩;refine fN (o i<|.head _) λy j=>?_
 exact(show a.at_=C from congrArg Loc.at_<|sJ<|sJ<|b.symm.trans j)▸P.same.extBut
theorem CJ(c:ay S env locs)(a:S.xZ x i=true)(R:Rel Z locs W st.r st.g s.heap)(b:aA Z W p v):wpAny (model Z.prog Z.w) A (storeName env x v) (λ_ s'=>rV Z locs s W (st.put i<|some<|.v p) s' W) No s:=TS.on (wH c a R b) λ_ _ x _=>x
inductive SC(Z:Cx)(locs:List (Option Loc))(s:Shared)(W:Gh)(st':St)(a:Shared)(d:Gh)(c:RV)(v:Value)(s':Shared):Prop
 |mk (W':Gh) (x:rV Z locs s W st' s' W') (k:∀b o,d.O b=none->a.heap.get? b=some o->(gj c=true->v≠.ref b)->s'.heap.get? b=some o/\W'.O b=none):SC Z locs s W st' a d c v s'
theorem s6(E:ay S env locs)(J:S.xZ x i=true)(g:eM Z locs s W m d c)(u:ky Z c d.heap rv v)(O:gj rv=true->∀a,v=.ref a->s.heap.get? a=none):wpAny (model Z.prog Z.w) A (storeName env x v) (λ_=>SC Z locs s W (m.put i<|some rv) d c rv v) No d:=by
 have F:rv.tag=none/\(∃a,v=.ref a/\c.O a=none/\ey Z c d.heap a rv)->gj rv=true->(∀a,ey Z (c.tag a<|some<|.mu i) d.heap a rv->(c.tag a<|some<|.mu i).O a=some (bV i rv)->oG Z (c.tag a<|some<|.mu i) d.heap i rv (.ref a))->wpAny (model Z.prog Z.w) A (storeName env x v) (λ_=>SC Z locs s W (m.put i<|some rv) d c rv v) No d:=by
  rintro⟨U,a,rfl,D,M⟩ L X;refine aO M.eJ λo V _=>?_;have N:=g.rel.AR (t:=.mu i) D ⟨o,V⟩ (by intro o q;cases q)
  refine eV (yC E J) λy H T R=>?_;refine tG E T (N.lo i y H) R λY Q P=>?_;obtain⟨R3,I⟩:=N.put (rv:=rv) H P<|X a (M.at_ (.tag λo e=>nE<|D.symm.trans e) λ_ e=>e) (by rw[Gh.aG];delta bV;refine U▸?_;rfl)
  refine jF g.same λh1 t1 zz8=>?_;have j:=O L a rfl;refine⟨_,⟨⟨Y,Q,by rw[zz8]⟩,g.ext.yw D j,⟨λb o e z=>?_⟩,R3⟩,λb o z e C=>?_⟩
  .have r:b≠a:=by rintro rfl;replace e:=j▸e;exact nE e
   exact I.free b o (g.keep.free b o e z)<|(Gh.ag _ _ r).trans<|g.ext.new b o e z
  .have r:=(Gh.ag c (some<|.mu i) (show b≠a by rintro rfl;exact C L rfl)).trans z
   exact⟨I.free b o e r,r⟩
 induction rv with
 |v p=>exact o0 (CJ E J g.rel u) (λ_ _ q=>⟨_,g.toS.trans q,λb o z e _=>⟨q.keep.free b o e z,z⟩⟩) λ_ _ z=>z
 |ml t l=>exact F u rfl λa M h=>⟨a,rfl,h,M⟩
 |md t ks vs=>exact F u rfl λa M h=>⟨a,rfl,h,M⟩
theorem yB(j:ay S env locs)(h:S.xZ x i=true)(y:EP Z locs s W a g v e):wpAny (model Z.prog Z.w) A (storeName env x v) (λ_=>FP Z locs s W (a.put i<|some g) .dK .next) No e:=by obtain⟨l,d,c,b⟩:=y;exact o0 (s6 j h d c b) (λ_ _ q=>let⟨_,q,_⟩:=q;.next q) λ_ _ z=>z
inductive Stores(env:Env):List (Value->Sem Unit)->List Str->Prop
 |nil:Stores env [] []
 |cons {t:Value->Sem Unit} {x:Str} {ts:List (Value->Sem Unit)} {a:List Str}:(∀{M:Model}{A:dA}{v:Value}{Q:Unit->Shared->Prop}{E:Value->Shared->Prop}{s:Shared},wpAny M A (storeName env x v) Q E s->wpAny M A (t v) Q E s)->Stores env ts a->Stores env (t::ts) (x::a)
inductive Slots(S:iy):List Str->List Nat->Prop
 |nil:Slots S [] []
 |cons {x:Str} {i:Nat} {a:List Str} {b:List Nat}:S.xZ x i=true->Slots S a b->Slots S (x::a) (i::b)
theorem Slots.snoc (h:Slots S q u) (C:S.xZ x i=true):Slots S (q++[x]) (u++[i]):=by
 induction h with
 |nil=>exact .cons C .nil
 |cons a _ z=>exact .cons a z
theorem Slots.rev (h:Slots S q u):Slots S q.reverse u.reverse:=by
 induction h with
 |nil=>exact .nil
 |cons a _ z=>rw[bt,bt];exact z.snoc a
theorem Stores.binds (env) (q):Stores env (q.map λx=>bindName env x) q:=by
 induction q with
 |nil=>exact .nil
 |cons _ q u=>exact .cons (λh=>wpAny_bindName h)<|u
theorem sZ(F:ay S env locs){m i}(D:Slots S m i):∀{ts b a st st' s},Stores env ts m->ah Z W b a->uT i b st=some st'->Rel Z locs W st.r st.g s.heap->wpAny (model Z.prog Z.w) A (assignInOrder ts a) (λ_=>TS Z locs s W st' i) No s:=by
 induction D with
 |nil=>
  intro ts b a st st' s d c e R;cases d;induction b with
  |nil=>
   obtain rfl:=sJ e;induction a with
   |nil=>exact wpAny_pure ⟨rV.n8 R,λ_ _ _ _ _ e=>e⟩
   |cons=>exact c.elim
  |cons=>exact nE e
 |cons z _ y=>
  intro ts b a st st' s d c e R;cases d with
  |cons E d=>
   cases b with
   |nil=>exact nE e
   |cons p b=>
    induction a with
    |nil=>exact c.elim
    |cons v a=>
     refine assignInOrder_cons<|E<|TS.on (wH F z R c.1) λ_ I o x=>TS.on (y d c.2 e o.rel) λ_ H t u=>?_
     exact⟨o.trans t,λC q=>(x C λj l=>by cases l with|head=>exact q _ (.head _)|tail _ h=>cases h).trans<|u C λj l=>q j<|.tail _ l⟩
theorem vm:∀{is a i p st},is.length=a.length->uT (is++[i]) (a++[p]) st=(uT is a st).map λst'=>st'.put i (some<|.v p)
 |[],[],i,p,st,_=>rfl
 |j::is,q::a,i,p,st,h=>vm (is:=is)<|fg h
theorem oY:∀{is ps st st'},uT is ps st=some st'->is.length=ps.length
 |[],[],_,_,_=>rfl
 |_::is,_::ps,_,_,e=>congrArg (· +1)<|oY (is:=is) (ps:=ps) e
theorem yN:∀{is ps i p st st'},i∉is->uT is ps (st.put i<|some<|.v p)=some st'->∃a,uT is ps st=some a/\st'=a.put i (some<|.v p)
 |[],[],i,p,st,st',_,e=>⟨st,rfl,(bn e).symm⟩
 |j::is,q::ps,i,p,st,st',h,e=>by
  have:(st.put i<|some<|.v p).put j (some<|.v q)=(st.put j<|some<|.v q).put i (some<|.v p):=congrArg (λr=>(⟨r,st.g⟩:St))<|QO _ _ λz=>h<|z▸.head _
  exact yN (is:=is) (λz=>h<|.tail _ z)<|this▸e
theorem yM:∀{is ps st st'},is.Nodup->uT is ps st=some st'->uT is.reverse ps.reverse st=some st'
 |[],[],_,_,_,e=>e
 |i::is,p::ps,st,st',b,e=>by rw[Wp]at b;refine aO (yN (is:=is) (ps:=ps) b.1 e) λd c a=>?_;subst a;rw[bt,bt,vm (by simpa using oY c),yM b.2 c];rfl
def vt(a:List jp):List Str:=a.filterMap nameOf
theorem PS(b:Str->Bool)(h:(co (view e).tag 10&&b (view e).nm)=true):∃x p,e=.Name x p/\b x=true:=vT h λq h=>⟨_,_,q,h⟩
theorem rH:∀{a},nM S b a=true->Slots S (vt b) a:=by
 induction b with
 |nil=>
  intro d;induction d with
  |nil=>exact λ_=>.nil
  |cons _ _=>exact λh=>ff h
 |cons e b j=>
  intro c;induction c with
  |nil=>exact λh=>ff h
  |cons i a=>intro h;refine nF (PS (λx=>S.xZ x i&&nM S b a) h) λx p g h=>?_;subst g;exact aE h λm l=>.cons m<|j l
theorem xK(env):∀{b},nM S a b=true->Stores env ((assignEach a env).map (·.2)) (vt a)/\(assignEach a env).findIdx? (·.1)=none/\(assignEach a env).length=b.length:=by
 induction a with
 |nil=>
  intro d;induction d with
  |nil=>exact λ_=>⟨.nil,rfl,rfl⟩
  |cons _ _=>exact λh=>ff h
 |cons e a j=>
  intro c;cases c with
  |nil=>exact λh=>ff h
  |cons i b=>
   intro h;refine nF (PS (λx=>S.xZ x i&&nM S a b) h) λx p g h=>?_;subst g;refine aE h λ_ h=>?_;refine Ao (j h) λo m l=>?_;refine⟨.cons (λh=>kK h) o,?_,congrArg (· +1) l⟩
   show List.findIdx? _ ((false,assign (.Name x p) env)::assignEach a env)=_;rw[jC,m];rfl
theorem BN(F)(c:∀e x,F e=some x->nameOf e=some x)(a):(a.filterMap F).length=a.length->a.filterMap F=vt a:=by
 induction a with
 |nil=>exact λ_=>rfl
 |cons e a b=>
  intro h;induction q:F e with
  |none=>rw[List.filterMap_cons_none q]at h;exact absurd h<|bF<|gY<|List.length_filterMap_le F a
  |some x=>
   delta vt;rw[xW q]at h⊢;rw[xW<|c e x q]
   exact congrArg _<|b<|fg h
theorem aab{g:Type}{x y z u:g}(h:b=false)(k:a=false->y=z):(if e=true then x else if d=true then x else if a=true then x else if c=true then x else if b=true then u else y)=x\/(if e=true then x else if d=true then x else if a=true then x else if c=true then x else if b=true then u else y)=z:=by
 subst h;induction e with
 |true=>exact .inl rfl
 |false=>induction d with
  |true=>exact .inl rfl
  |false=>induction a with
   |true=>exact .inl rfl
   |false=>induction c with
    |true=>exact .inl rfl
    |false=>exact .inr<|k rfl
theorem uS(ts)(a)(pos0)(v)(h:oV v=true):swappedStores [.Tuple ts a pos0] v env=pure none\/swappedStores [.Tuple ts a pos0] v env=pure (some<|vt ts):=by
 cases v with
 |Tuple b d c=>
  exact aab (bN h) λq=>congrArg (λl=>pure (some l)) (BN _ (λe x q=>by
   cases e with
   |Name=>exact iE q λ_ q=>q
   |_=>exact nE q) ts (bne_eq_false_iff_eq.mp (b5.mp q).1))
 |_=>exact .inl rfl
end
def kz(W:Gh)(h:Heap)(a:Addr)(o:Obj):Prop:=h.get? a=some o/\(W.O a=none\/W.O a=some (.fz o))
inductive sH(c:Cx)(N:Addr->Prop)(W:Gh)(h:Heap)(b:Addr):Src->Prop
 |lst {a:Addr} {d:Array Value} {n i:Nat} {rest:List PV}:h.IsListIter b a i->kz W h a (jz d n)->a≠b->¬N a->ah c W rest (d.toList.drop i)->sH c N W h b (.l rest)
 |tup {a:Addr} {d:Array Value} {n i:Nat} {rest:List PV}:IsTupIter h b a i->kz W h a (qy d n)->a≠b->¬N a->ah c W rest (d.toList.drop i)->sH c N W h b (.l rest)
 |iH {x m:Nat}:IsRangeIter h b x m 1->sH c N W h b (.l<|(IN x m).map λ(j:Nat)=>.int (j:Int))
 |aZ {a:Addr} {n k i:Nat}:h.IsListIter b a i->W.F[n]?=some a->a≠b->sH c N W h b (.g n k i)
noncomputable def E7:Src->Nat
 |.l r=>r.length
 |.g _ k _=>k
section
variable{Z:Cx} {locs:List (Option Loc)} {A:dA} {W:Gh} {s s':Shared} {h h':Heap} {r:List (Option RV)} {g:List GO} {n:Nat} {N:Addr->Prop}
theorem kz.keep (x:kz W h a o) (e:Ext h W u) (k:mH W h h') (z:∀(a:Addr)(o:Obj),u.O a=some (.fz o)->h'.get? a=some o):kz u h' a o:=by
 obtain⟨q,h2|h2⟩:=x
 .exact⟨k.free a o q h2,.inl<|e.new a o q h2⟩
 .exact⟨z a o<|e.le.fz a o h2,.inr<|e.le.fz a o h2⟩
theorem kz.but (x:kz W h a o) (q:a≠b) (k:fA b h h'):kz W h' a o:=⟨k a o q x.1,x.2⟩
theorem sH.keep (x:sH Z N W h b F) (E:W.O b=none) (e:Ext h W L) (k:mH W h h') (J:∀(a:Addr)(o:Obj),L.O a=some (.fz o)->h'.get? a=some o):sH Z N L h' b F:=by
 induction x with
 |lst u D C H I=>obtain⟨o,z,q⟩:=u;exact .lst ⟨o,k.free _ _ z E,q⟩ (D.keep e k J) C H<|I.mono e.le
 |tup u D C H I=>obtain⟨o,z,q⟩:=u;exact .tup ⟨o,k.free _ _ z E,q⟩ (D.keep e k J) C H<|I.mono e.le
 |iH u=>exact .iH<|k.free _ _ u E
 |aZ u D C=>refine aO u λo z q=>?_;exact .aZ ⟨o,k.free _ _ z E,q⟩ (e.le.gl _ _ D) C
theorem sH.kind (x:sH Z N W h b C):∃o T,h.get? b=some o/\o.cls=.type T/\(["enumerate","zip","dict_itemiterator","dict_reverseitemiterator","odict_iterator","itertools.zip_longest","itertools.pairwise"]:List String).contains T=false:=by
 induction x with
 |lst u=>refine eV u λo z q _=>?_;exact⟨o,_,z,q,by decide⟩
 |tup u=>refine eV u λo z q _=>?_;exact⟨o,_,z,q,by decide⟩
 |iH u=>exact⟨_,_,u,rfl,by decide⟩
 |aZ u=>refine eV u λo z q _=>?_;exact⟨o,_,z,q,by decide⟩
set_option backward.match.sparseCases true in
theorem nH{b:Addr}{src:Src}{c:jp}{v:Value}{Q:Unit->Shared->Prop}{E:Value->Shared->Prop}(x:sH Z N W s.heap b src)(h:Q () s):wpAny (model Z.prog Z.w) A (letOwnedTupleGo c (.ref b) v) Q E s:=by
 refine ju x.kind λo T f j i=>?_;have d:wpAny (model Z.prog Z.w) A (do
  let(.ref r,.ref a):=(xU b,v)|(return:Sem Unit)
  let o<-load r
  match o.cls,o.data with
  |.type n,.fields e=>if["enumerate","zip","dict_itemiterator","dict_reverseitemiterator","odict_iterator","itertools.zip_longest","itertools.pairwise"].contains n&&e[0]?==some (rawInt a)then
    rule "for.unpacks-the-owned-tuple"
    updateField r 0 .none
  |_,_=>pure ()) Q E s:=by
  induction v with
  |ref a=>
   refine dL<|wpAny_load f ?_
   refine j▸?_;induction o.data<;>first|exact wpAny_pure h|skip
   rename_i e;simp only[i,Bool.false_and,jD,if_false];exact wpAny_pure h
  |_=>exact wpAny_pure h
 cases c<;>first|exact d|exact wpAny_pure h
theorem vO{xs:List Value}(h:ah Z W (p::a) (xs.drop i)):∃y,xs[i]?=some y/\aA Z W p y/\ah Z W a (xs.drop<|i+1):=by
 induction e:xs.drop i with
 |nil=>rw[e]at h;exact h.elim
 |cons y b=>
  rw[e]at h;have d:xs[i]?=some y:=by have:=gw (xs:=xs) (i:=i) (j:=0);rw[e]at this;exact this.symm
  have c:xs.drop (i+1)=b:=by
   have:xs.drop (i+1)=(xs.drop i).drop 1:=by rw[ve]
   exact this.trans<|congrArg _ e
  exact⟨y,d,h.1,by rw[c];exact h.2⟩
theorem zQ{a:List Value}(h:ah Z W [] (a.drop i)):a[i]?=none:=by
 induction e:a.drop i with
 |nil=>simpa using e
 |cons y b=>rw[e]at h;exact h.elim
theorem yJ{t:Option ε×σ}(hh:A.handled=none) (R:Rel Z locs W r (gl y) s.heap) (I:sH Z N W s.heap b U) (e:fB gl d U y=some t)(L:t=(none,y)->∀h',fA b s.heap h'->Q none {s with heap:=h'}) (u:∀(x:PV)(src':Src)(o:Option ε)(p:σ)(v:Value)(h':Heap)(tk:Nat),E7 src'<E7 U->d x y=some (o,p)->aA Z W x v->sH Z N W h' b src'->fA b s.heap h'->((∃q,o=some q/\t=(some q,p))\/(o=none/\fB gl d src' p=some t))->Q (some v) {s with heap:=h',toks:=tk}):wpAny (model Z.prog Z.w) A (pyNext<|.ref b) Q E s:=by
 have f:∀{x:PV}{src':Src},((d x y).bind λz=>match z.1 with|some r=>some (some r,z.2)|none=>fB gl d src' z.2)=some t->∃o p,d x y=some (o,p)/\((∃q,o=some q/\t=(some q,p))\/(o=none/\fB gl d src' p=some t)):=λ{x src'} e=>
  bE e λz H F=>by
   obtain⟨o,p⟩:=z;induction o with
   |some q=>exact⟨_,p,H,.inl ⟨q,rfl,(bn F).symm⟩⟩
   |none=>exact⟨_,p,H,.inr ⟨rfl,F⟩⟩
 induction I with
 | @lst a T m i c C O P h5 Y=>
  have D:s.heap.IsList a T:=⟨_,O.1,rfl,m,rfl⟩;cases c with
  |nil=>exact i4 hh C D ((UV).symm.trans<|zQ Y) λh' k=>L (bn e).symm h' k
  |cons x c=>obtain⟨v,X,V,q3⟩:=vO Y;obtain⟨o,p,H,F⟩:=f (src':=.l c) e;exact iD C D (x:=v) ((UV).symm.trans X) λh' M J=>u x (.l c) o p v h' s.toks (Ix _) H V (.lst M (O.but P J.extBut) P h5 q3) J.extBut F
 | @tup a T m i c C O P h5 Y=>
  have D:IsTup s.heap a T:=⟨_,O.1,rfl,m,rfl⟩;cases c with
  |nil=>exact next_tuple_end hh C D ((UV).symm.trans<|zQ Y) λh' k=>L (bn e).symm h' k
  |cons x c=>obtain⟨v,X,V,q3⟩:=vO Y;obtain⟨o,p,H,F⟩:=f (src':=.l c) e;exact next_tuple_item C D (x:=v) ((UV).symm.trans X) λh' M J=>u x (.l c) o p v h' s.toks (Ix _) H V (.tup M (O.but P J.extBut) P h5 q3) J.extBut F
 | @iH x m C=>
  induction m with
  |zero=>exact wpAny_pyNext_range_end hh C (nU 0) λh' k=>L (bn e).symm h' k
  |succ m=>
   refine nF (f (src':=.l<|(IN (x+1) m).map λ(j:Nat)=>.int (j:Int)) e) λo p H F=>?_
   refine wpAny_pyNext_range_item C (Int.lt_add_one_of_le<|Do m) λh' M J=>u (.int x) _ o p _ h' _ (Ix _) H ⟨_,rfl⟩ (.iH ?_) J.extBut F
   rw[show((m+1:Nat):Int) - 1=m from Int.add_sub_cancel m 1]at M;exact M
 | @aZ a m k i C O P=>
  induction k with
  |zero=>exact nE e
  |succ k=>
   refine bE e λgo hq e5=>bE e5 λl D e6=>?_;obtain rfl:=GO.list_eq D;refine eV (R.gl.at_ m _ hq) λa' g1 g2 g3=>?_;obtain rfl:=sJ<|O.symm.trans g1
   refine ju g3 λT z z1 z2 z3=>?_;have D:s.heap.IsList a T:=⟨_,z1,rfl,z,rfl⟩;induction zz9:l[i]? with
   |none=>have S:=e6;replace S:=zz9▸S;exact i4 hh C D ((UV).symm.trans<|z3.get_none zz9) λh' k=>L (bn S).symm h' k
   |some x=>have S:=e6;rw[zz9]at S;refine aO (z3.get zz9) λv X V=>?_;exact nF (f (src':=.g m k<|i+1) S) λo p H F=>iD C D (x:=v) ((UV).symm.trans X) λh' M J=>u x (.g m k<|i+1) o p v h' s.toks (Ix _) H V (.aZ M O P) J.extBut F
inductive IP(Z:Cx)(N:Addr->Prop)(W:Gh)(a:Src)(s:Shared)(c:Value)(s':Shared):Prop
 |mk (b:Addr) (h':Heap) (f:c=.ref b) (e:s'={s with heap:=h'}) (d:s.heap.get? b=none) (g:gI s.heap h') (i:sH Z N W h' b a):IP Z N W a s c s'
theorem mQ(R:Rel Z locs W r g s.heap)(d:ez Z W s.heap rv v)(S:gj rv=true->∀a,v=.ref a->W.O a=none)(O:∀a,N a->W.O a=none/\(gj rv=true->v≠.ref a))(e:srcOf g rv=some src):wpAny (model Z.prog Z.w) A (pyIter v) (IP Z N W src s) E s:=by
 have y:s.heap.get? s.heap.objs.size=none:=b0<|v6 _
 have D:∀{a:Addr}{o:Obj},s.heap.get? a=some o->a≠s.heap.objs.size:=λh=>bF<|gQ h
 have M:∀{a:Addr}{o:Obj},W.O a=some (.fz o)->¬N a:=λz q=>nE<|(O _ q).1.symm.trans z
 have lst:∀{a:Addr}{b:Array Value}{n:Nat}{l:List PV},kz W s.heap a (jz b n)->¬N a->ah Z W l b.toList->v=.ref a->some (Src.l l)=some src->wpAny (model Z.prog Z.w) A (pyIter v) (IP Z N W src s) E s:=by rintro a b n l k H q rfl e;obtain rfl:=sJ e;exact lG ⟨_,k.1,rfl,n,rfl⟩ ⟨_,_,rfl,rfl,y,.push _ _,.lst (i:=0) ⟨_,On _ rfl,rfl,rfl⟩ ⟨bf _ k.1,k.2⟩ (D k.1) H q⟩
 induction rv with
 |v p=>
  cases p with
  |tup l=>obtain⟨a,b,n,rfl,z,Q,C⟩:∃a b n,v=.ref a/\W.O a=some (.fz (qy b n))/\b.size<=az/\ah Z W l b.toList:=d;obtain rfl:=sJ e;have F:=R.fz _ _ z;exact iter_tuple ⟨_,F,rfl,n,rfl⟩ ⟨_,_,rfl,rfl,y,.push _ _,.tup (i:=0) ⟨_,On _ rfl,rfl,rfl⟩ ⟨bf _ F,.inr z⟩ (D F) (M z) C⟩
  |lst l=>obtain⟨a,b,n,q,z,Q,C⟩:∃a b n,v=.ref a/\W.O a=some (.fz (jz b n))/\b.size<=az/\ah Z W l b.toList:=d;exact lst ⟨R.fz _ _ z,.inr z⟩ (M z) C q e
  |aZ m=>
   obtain⟨a,L,rfl⟩:∃a,W.F[m]?=some a/\v=.ref a:=d;refine bE e λo q e=>mE e λl U e=>?_;obtain rfl:=GO.list_eq U;obtain rfl:=sJ e;obtain⟨Y,V,_,b,z,j,P,I⟩:=R.gl.at_ m _ q;obtain rfl:=sJ<|L.symm.trans V
   exact lG ⟨_,j,rfl,z,rfl⟩ ⟨_,_,rfl,rfl,y,.push _ _,.aZ ⟨_,On _ rfl,rfl,rfl⟩ L<|D j⟩
  |iH i=>
   refine iE e λT e=>?_;obtain rfl:=sJ e;obtain⟨a,t,u,J,rfl,X,z⟩:∃a t u J,v=.ref a/\i<2^20/\W.O a=some (.fz {cls:=.type "range",dict:=none,data:=.fields #[.int 0 t,.int i u,.int 1 J],slots:= #[]}):=d;have f:rt 0 i 1=i.toNat:=by delta rt;simp;omega
   have c:uH 0 i 1=true:=by delta uH UX;refine f▸?_;simp;omega
   refine wpAny_pyIter_range (R.fz _ _ z) c ⟨_,_,rfl,rfl,y,.push _ _,?_⟩;refine WP▸?_;refine .iH (x:=0) ?_;exact f▸On _ rfl
  |_=>exact nE e
 |ml t l=>obtain⟨a,rfl,b,m,j,P,I⟩:=d;exact lst ⟨j,.inl<|S rfl a rfl⟩ (λq=>(O _ q).2 rfl rfl) I rfl e
 |md=>exact nE e
end
section
variable{Z:Cx} {locs:List (Option Loc)} {st:St}
theorem Fi{e:DictEntry}(h:e.key=.str z t):e.key.isStr x=(z==x):=by rw[h];rfl
theorem Ja{a:List Str}{es:List DictEntry}(c:a.length=es.length)(d:∀(j:Nat)(x:Str)(e:DictEntry),a[j]?=some x->es[j]?=some e->∃t,e.key=.str x t)(x):es.findIdx? (·.key.isStr x)=a.idxOf? x:=by
 induction a generalizing es with
 |nil=>
  induction es with
  |nil=>rfl
  |cons _ _=>simp at c
 |cons y a b=>
  induction es with
  |nil=>simp at c
  |cons e es=>
   obtain⟨t,f⟩:=d 0 y e rfl rfl;have b:=b (es:=es) (by simpa using c) λj x e h g=>d (j+1) x e (h)<|g
   rw[jC,Fi f,Ky,b]
theorem HO(X:Z.K.In s.heap)(I:InstAt s.heap x ⟨.ref C,some g,.plain,F⟩ C (some<|dictOf f y)) (o:plainOver Z.K C=true) (m:takerIn Z.K C d=some none) (p:(clsIn Z.K C).any (·.hasDict)=true)(n:f.any (·.refKey)=false) (H:f.length<=1000) (r:∃e i,kC d (fc Z.w.params d) (.str d s.toks) v (dictOf f y)=dictOf e i/\e.length<=1001)(h:R (.ok<|.ret .none) {s with heap:=s.heap.update g<|kC d (fc Z.w.params d) (.str d s.toks) v,toks:=s.toks+1}):codeAny (model Z.prog Z.w) A (.call (.builtin "object.__setattr__") ⟨[.ref x,.str d E,v],[]⟩) R s:=by
 refine osa_open X I o m λb=>?_;refine aO (PySem.W.any_some p) λL q j=>?_;obtain⟨l,-,-,t⟩:=I;have D:=t;refine nF r λe i k J=>?_;refine dL<|wpAny_pure<|dL<|dL<|wpAny_loadPart l<|dL<|(looks_clsIn X q).here ?_
 rw[j];refine wpAny_pure (a:=some g)<|dL<|wpAny_pure<|dL ?_
 refine dL<|dL<|UJ<|wpAny_pure<|dL<|wpAny_mkText<|dL<|wpAny_loadPart D ?_
 dsimp only;have c:aRefKeyMayBeTheName d f.toArray=false:=by have u:=Array.any_toList▸n;rw[aRefKeyMayBeTheName_at,u,bp]
 rw[c];refine wpAny_updatePart D ?_;have z:(s.heap.update g<|kC d (fc Z.w.params d) (.str d s.toks) v).get? g=some (dictOf e i):=k▸ie _ D (by exact congrArg _ k)
 refine dL<|wpAny_lookBehind z (pastItsLine_dict (by rw[List.size_toArray,qi];omega)) ?_
 exact wpAny_pure h
theorem Rk{a:List DictEntry}:(a.modify j λe=>{e with val:=v}).map (·.val)=(a.map (·.val)).set j v:=by
 induction a generalizing j with
 |nil=>simp
 |cons x a b=>induction j with
  |zero=>rfl
  |succ j=>simp[b]
theorem A8(B:lu Z)(ha:x∈Z.T.AN)(R:Rel Z locs W st.r st.g s.heap)(hv:aA Z W (.aZ m) v)(hp:aA Z W p u)(e1:st.g[m]?=some (.inst c)) (e2:st.g[m+1]?=some (.iK n vs))(hg:(∃j,n.idxOf? x=some j/\go=.iK n (vs.set j p))\/(n.idxOf? x=none/\n.length<100/\go=.iK (n++[x]) (vs++[p]))):wpAny (model Z.prog Z.w) A (setAttr v x u) (λ_ s'=>rV Z locs s W {st with g:=st.g.set (m+1) go} s' W) No s:=by
 refine sA λC q'=>?_;refine qV R hv e1 e2 λxa C d sl l ep ev hC hφ L hx hd U V S D I=>?_;subst ev;have X:=nB B.YQ<|ec R
 have zz10:=B.cls c C hC;refine aO zz10.cd λcd hcd hhd=>?_;refine Ao (zz10.no x ha) λhno hta hcp=>?_;have O:∀e∈l,∃z t,e.key=.str z t:=by
  intro e he;obtain⟨j,H⟩:=dh.mp he;have hlt:=(ty.mp H).1;obtain⟨t,N⟩:=V j _ e (At (by omega)) H
  exact⟨_,t,N⟩
 have hr:l.any (·.refKey)=false:=by rw[dI];intro e he;refine jF (O e he) λz t N=>?_;simp[AE,N]
 have hlv:vs.length=l.length:=by have:=D.length;simpa using this
 refine q' ?_;let key:Value:=.str x<|s.toks+1
 have hm:=(ty.mp e2).1;obtain⟨f,J,k,E,P⟩:∃f J,kC x (fc Z.w.params x) (.str x (s.toks+1)) u (dictOf l ep)=dictOf f J/\f.length<=1001/\(∀Y:Heap,Y.get? d=some (dictOf f J)->mJ Z W Y (m+1) d go):=by
  refine Obj.putName_eq▸?_;have hf:=Ja U V x;rcases hg with⟨j,H,rfl⟩|⟨H,hlt,rfl⟩
  .have F:l.toArray.findIdx? (·.key.isStr x)=some j:=by rw[Az,hf,H]
   refine⟨l.modify j λe=>{e with val:=u},ep,?_,by simp;omega,λY ho=>⟨_,_,ho,by simp[U],?_,S,?_⟩⟩
   .simp only[Gx,F];simp[List.modify_toArray]
   .intro i y e h a;rw[List.getElem?_modify]at a;induction q3:l[i]? with
    |none=>replace a:=q3▸a;exact nE a
    |some e0=>obtain⟨t,N⟩:=V i y e0 h q3;rw[q3]at a;replace a:=sJ a;subst a;refine⟨t,?_⟩;split<;>exact N
   .rw[Rk];exact D.set j hp
  .have F:l.toArray.findIdx? (·.key.isStr x)=none:=by rw[Az,hf,H]
   refine⟨l++[⟨fc Z.w.params x,.str x<|s.toks+1,u⟩],ep+1,?_,by simp;omega,λY ho=>⟨_,_,ho,by simp[U],?_,by simp;omega,?_⟩⟩
   .simp only[Gx,F];simp
   .intro i y e h a;rcases jw i n.length with hi|hi
    .rw[IR hi]at h;rw[IR (by omega)]at a
     exact V i y e h a
    .replace h:=(Fk hi)▸h;rw[Fk (by omega)]at a
     have h0:i - n.length=0:=by
      induction z:i - n.length with
      |zero=>rfl
      |succ z'=>rw[z]at h;exact nE h
     rw[h0]at h;rw[<-U,h0]at a;simp at h a;subst h;subst a;exact⟨_,rfl⟩
   .simpa using D.append (.one hp)
 refine set_plain X I zz10.sa ?_;refine HO (s:={s with toks:=s.toks+1}) X I zz10.po hta (by rw[hcd];trivial) hr (by omega) ⟨f,J,k,E⟩ ?_
 have Q:(s.heap.update d<|kC x (fc Z.w.params x) (.str x<|s.toks+1) u).get? d=some (dictOf f J):=k▸ie _ hd (by exact congrArg _ k)
 have sb:cR d s.heap (s.heap.update d<|kC x (fc Z.w.params x) (.str x<|s.toks+1) u):=g4 ..
 have M:=Rel.V5 R L hm (λb o q e=>SameBut.keep sb q e) ⟨_,Q⟩<|P _ Q
 exact⟨⟨_,_,rfl⟩,.rfl,⟨M.2.free⟩,M.1⟩
end
section
variable{Z:Cx} {locs:List (Option Loc)} {A:dA} {W:Gh} {s:Shared} {st st':St} {f:iU} {n k:Nat} {S:iy} {env:Env}
theorem rV.but (x:rV Z locs s W st' u D) (E:s.heap.get? b=none) (F:D.O b=none) (k:fA b u.heap C):rV Z locs s W st' {u with heap:=C,toks:=tk} D:=by refine jF x.same λJ I q=>?_;refine⟨⟨C,tk,by rw[q]⟩,x.ext,⟨λc o e z=>k c o (by rintro rfl;replace e:=E▸e;exact nE e)<|x.keep.free c o e z⟩,x.rel.tagged λc t o q H=>k c o (by rintro rfl;replace q:=F▸q;exact nE q) H⟩
theorem eM.but (x:eM Z locs s W st' C E) (F:s.heap.get? b=none) (H:E.O b=none) (k:fA b C.heap D):eM Z locs s W st' {C with heap:=D,toks:=tk} E:=by
 refine jF x.same λL J q=>?_;have u:∀c o,s.heap.get? c=some o->c≠b:=λc o e z=>by subst z;replace e:=F▸e;exact nE e
 refine⟨⟨D,tk,by rw[q]⟩,x.ext,⟨λc o e z=>k c o (u c o e)<|x.keep.free c o e z,λc o e z=>k c o (u c o e)<|x.keep.fr c o e z,λc o i e z=>k c o (u c o e)<|x.keep.ce c o i e z⟩,x.rel.tagged λc t o q I=>k c o (by rintro rfl;replace q:=H▸q;exact nE q) I⟩
theorem Rel.mS (R:Rel Z locs W r g h):Rel Z locs W (r.set i none) g h:=⟨R.sz,R.fz,R.base,R.gl,R.len.trans aU.symm,R.lo,R.ap,λj u e=>by
  by_cases q:i=j
  .subst q;exact nE<|sJ<|(T0<|aU▸(ty.mp e).1).symm.trans e
  .exact R.sl j u ((aP q).symm.trans e)⟩
theorem EP.ret (y:EP Z locs s W st' E v H):FP Z locs s W st' (.ret E) (.ret v) H:=by
 obtain⟨I,F,u,D⟩:=y;refine⟨I,F.toS,v,rfl,?_⟩;induction E with
 |v p=>exact u
 |ml t l=>obtain⟨e,a,q,C,z⟩:=u;exact⟨e,a,q,.inl C,z,.inl<|D rfl a q⟩
 |md t ks J=>obtain⟨e,a,q,C,z⟩:=u;exact⟨e,a,q,.inl C,z,.inl<|D rfl a q⟩
theorem sT(h:gA v=true):swapsWith v t line env=pure false:=by
 cases v with
 |ListComp=>exact ff h
 |SetComp=>exact ff h
 |DictComp=>exact ff h
 |_=>rfl
theorem EC:swapsWith v (some<|.Subscript o i p) line env=pure false:=by cases v<;>rfl
theorem ED:swapsWith v (some<|.Attribute o x p) line env=pure false:=by cases v<;>rfl
theorem jS(h:eS e=true)(x):foldedSetIterable e env x=pure x:=by
 cases e with
 |Set=>exact ff h
 |_=>rfl
theorem eM.lW (x:eM Z locs s W st' u F) (q:u.heap.get? b=none):s.heap.get? b=none:=by
 induction e:s.heap.get? b with
 |none=>rfl
 |some o=>
  induction z:W.O b with
  |none=>exact nE<|q.symm.trans<|x.keep.free _ _ e z
  |some D=>obtain⟨E,C⟩:=x.ext.tagged z;exact nE<|(x.rel.bA q).symm.trans C
theorem ky.yp (x:ky Z W h z v) (C:gj z=true) (e:v=.ref a):W.O a=none:=by
 induction z with
 |v=>exact ff C
 |ml=>obtain⟨_,D,u,q,_⟩:=x;cases u.symm.trans e;exact q
 |md=>obtain⟨_,D,u,q,_⟩:=x;cases u.symm.trans e;exact q
theorem n6(u:ay S env locs)(F:A.handled=none)(c:rg S h t=true)(R:Rel Z locs W st.r st.g s.heap)(p:aA Z W x v)(e:bY t x st=some st'):wpAny (model Z.prog Z.w) A (assign h env v) (λ_=>TS Z locs s W st'<|kH t) No s:=by
 induction t with
 |v i=>refine vT c λq c=>?_;obtain rfl:=sJ e;exact q▸kK (wH u c R p)
 |ns Q=>
  refine vT c λq c=>aE c λc E=>?_;refine q▸?_;cases x with
  |tup l=>
   obtain⟨a,d,m,rfl,z,P,j⟩:∃a d n,v=.ref a/\W.O a=some (.fz (qy d n))/\d.size<=az/\ah Z W l d.toList:=p;refine Ao (xK env c) λM L J=>?_;refine assign_Tuple_tuple F ⟨_,R.fz _ _ z,rfl,m,rfl⟩ (J.trans<|(oY e).trans j.length) L λN O=>?_
   have y:gI s.heap N:=⟨λb o e=>O b o (bF<|gQ e) e⟩
   have D:=(eM.grow (tk:=s.toks) R y).toS;exact TS.on (sZ u (rH c) M j e D.rel) λ_ _ q k=>⟨D.trans q,λC I b o H e=>k C I b o H<|y.keep b o e⟩
  |_=>exact nE e
theorem xF (h:wpAny (model Z.prog Z.w) A (pyNext o) (λr d=>match r with
  |none=>R (.ok .next) d
  |some v=>wpAny (model Z.prog Z.w) A (letOwnedTupleGo target o v) (λ_ c=>wpAny (model Z.prog Z.w) A (assign target env v) (λ_ g=>wpAny (model Z.prog Z.w) A (execs e env) (λp a=>match p with
   |.next=>codeAny (model Z.prog Z.w) A (.forLoop target o e [] env) R a
   |.cont=>codeAny (model Z.prog Z.w) A (.forLoop target o e [] env) R a
   |.brk=>R (.ok .next) a
   |.ret v=>R (.ok (.ret v)) a) No g) No c) No d) No s):
 codeAny (model Z.prog Z.w) A (.forLoop target o e [] env) R s:=by
 refine oI ?_;refine K5 ?_;refine dL<|ft<|dL<|wpAny_onRaise<|o0 h (λr d i=>?_) λ_ _ l=>l.elim
 induction r with
 |none=>exact wpAny_pure ⟨rfl,codeAny_block (by rw[execs_nil];exact wpAny_pure i)⟩
 |some v=>
  refine dL<|o0 i (λ_ c j=>?_) λ_ _ l=>l.elim
  refine dL<|o0 j (λ_ g m=>dL<|o0 m (λp a b=>?_) λ_ _ l=>l.elim) λ_ _ l=>l.elim
  induction p with
  |next=>exact wpAny_pure ⟨rfl,b⟩
  |cont=>exact wpAny_pure ⟨rfl,b⟩
  |brk=>exact wpAny_pure b
  |ret v=>exact wpAny_pure b
theorem uk (h:wpAny (model Z.prog Z.w) A (bW test env (eval test env)) (λb d=>if b=true then wpAny (model Z.prog Z.w) A (execs e env) (λj a=>match j with
  |.next=>codeAny (model Z.prog Z.w) A (.whileLoop test e [] env) R a
  |.cont=>codeAny (model Z.prog Z.w) A (.whileLoop test e [] env) R a
  |.brk=>R (.ok .next) a
  |.ret v=>R (.ok (.ret v)) a) No d else R (.ok .next) d) No s):
 codeAny (model Z.prog Z.w) A (.whileLoop test e [] env) R s:=by
 refine oI ?_;refine K5 ?_;refine dL<|o0 h (λb d g=>?_) λ_ _ i=>i.elim
 induction b with
 |false=>rw[execs_nil];exact dL<|wpAny_pure<|wpAny_pure g
 |true=>
  refine dL<|o0 g (λj a c=>?_) λ_ _ i=>i.elim
  induction j with
  |next=>exact wpAny_pure ⟨rfl,c⟩
  |cont=>exact wpAny_pure ⟨rfl,c⟩
  |brk=>exact wpAny_pure c
  |ret v=>exact wpAny_pure c
theorem Eu(H:jV Z f n){D c C E l}(U:aw Z.T k S D c=true)(Q:iR (xJ Z.T k S) C E=true)(J:ay S env locs)(L:fq A n){K}:∀{W st s},Rel Z locs W st.r st.g s.heap->GG f c E K st=some (l,st')->codeAny (model Z.prog Z.w) A (.whileLoop D C [] env) (λr p=>∃v,r=.ok v/\FP Z locs s W st' l v p) s:=by
 induction K with
 |zero=>exact@λ_ _ _ _ e=>nE e
 |succ K O=>
  intro W st s R e;refine bE e λt e1 d=>uk<|BP.on (H.b (st':=t.2) (b:=t.1) U J L R e1) λs1 W1 o=>?_
  induction I:t.1 with
  |false=>replace d:=I▸d;refine AH (se d) λa x=>?_;subst a;subst x;exact⟨_,rfl,.next o.toS⟩
  |true=>
   replace d:=I▸d;refine bE d λy zz11 m=>o0 (H.iT (st':=y.2) Q J L o.rel zz11) (λv N q=>?_) λ_ _ z=>z;obtain⟨W2,j,i⟩:=FP.then o.toS R q;have again:GG f c E K y.2=some (l,st')->codeAny (model Z.prog Z.w) A (.whileLoop D C [] env) (λr p=>∃v,r=.ok v/\FP Z locs s W st' l v p) N:=λY=>bw (O j.rel Y) λr s3 h=>aO h λv X V=>⟨v,X,FP.then j R V⟩;obtain⟨F,M⟩:=y;induction F with
   |dK=>subst i;exact again m
   |cnt=>subst i;exact again m
   |brk=>subst i;obtain⟨rfl,rfl⟩:=se m;exact⟨_,rfl,.next j⟩
   |ret rv=>refine aO i λu a P=>?_;subst a;obtain⟨rfl,rfl⟩:=se m;exact⟨_,rfl,W2,j,u,rfl,P⟩
theorem Jo(H:jV Z f n){t h P ms b}(V:rg S h t=true)(hs:iR (xJ Z.T k S) P ms=true)(he:ay S env locs)(X:fq A n)(R:Rel Z locs W st.r st.g s.heap) (y:s.heap.get? b=none):∀(m){src J i C a st'},E7 src=m->rV Z locs s W i C J->J.O b=none->sH Z (λ_=>False) J C.heap b src->fB (λs:St=>s.g) (forTurn f t ms) src i=some (a,st')->codeAny (model Z.prog Z.w) A (.forLoop h (.ref b) P [] env) (λr M=>∃v,r=.ok v/\FP Z locs s W st' (a.getD .dK) v M) C:=by
 intro m;induction m using Pc with
 |ind m ih=>
  intro src J i C a st' hm X1 D I e;refine xF<|yJ X.hd X1.rel I e (λhr h' zz12=>?_) λx d o y1 v h' tk U e1 hv I' zz12 j=>?_
  .obtain⟨rfl,rfl⟩:=pJ hr;exact⟨_,rfl,.next<|X1.but y D zz12⟩
  .have p:=X1.but (tk:=tk) y D zz12;refine nH (src:=d) I' ?_;refine bE e1 λst2 e2 e1=>mE e1 λz e3 E=>?_;obtain⟨fl,L⟩:=z;refine TS.on (n6 he X.hd V p.rel hv e2) λ_ s3 X3 _=>?_;refine o0 (H.iT hs he X X3.rel e3) (λfv s4 Y=>?_) λ_ _ z=>z;obtain⟨W4,l,F⟩:=FP.then X3 p.rel Y;refine nF I'.kind λob To Q _=>?_;have go:L=y1->o=none->codeAny (model Z.prog Z.w) A (.forLoop h (.ref b) P [] env) (λr M=>∃v,r=.ok v/\FP Z locs s W st' (a.getD .dK) v M) s4:=by
    rintro rfl rfl;rcases j with⟨q,c,_⟩|⟨_,e5⟩
    .exact nE c
    .exact ih (E7 d) (hm▸U) rfl (p.trans l) (l.ext.new b _ Q D) (I'.keep D l.ext l.keep l.rel.fz) e5
   induction fl with
   |dK=>subst F;obtain⟨rfl,rfl⟩:=pJ E;exact go rfl rfl
   |cnt=>subst F;obtain⟨rfl,rfl⟩:=pJ E;exact go rfl rfl
   |brk=>
    subst F;obtain⟨rfl,rfl⟩:=pJ E;rcases j with⟨q,c,N⟩|⟨c,_⟩
    .obtain rfl:=sJ c;cases N;exact⟨_,rfl,.next<|p.trans l⟩
    .exact nomatch c
   |ret rv=>
    refine aO F λu O hu=>?_;subst O;obtain⟨rfl,rfl⟩:=pJ E;rcases j with⟨q,c,N⟩|⟨c,_⟩
    .obtain rfl:=sJ c;obtain⟨rfl,rfl⟩:=pJ N;exact⟨_,rfl,W4,p.trans l,u,rfl,hu.back p R⟩
    .exact nomatch c
theorem NW(H:jV Z f n)(p:rg S j t=true)(o:eS i=true)(Y:aw Z.T k S i U=true)(X:iR (xJ Z.T k S) M P=true)(y:ay S env locs) (C:fq A n) (R:Rel Z locs W st.r st.g s.heap) (e1:f.e U st=some (E,d)) (e2:srcOf d.g E=some l) (e3:fB (λs:St=>s.g) (forTurn f t P) l d=some (m,st')):wpAny (model Z.prog Z.w) A (exec (.For j i M [] O) env) (FP Z locs s W st'<|m.getD .dK) No s:=by
 refine wpAny_For (EP.on (H.e Y y C R e1) λv D W1 c u x3=>?_)<|jS o
 refine o0 (mQ (N:=λ_=>False) c.rel u.wD (λV a ea=>ky.yp u V ea) (λ_ z=>z.elim) e2) (λQ s2 q=>?_) λ_ _ z=>z;obtain⟨b,h',L,J,x,I,F⟩:=q;subst L;subst J;exact bw (Jo H p X y C R (c.lW x) _ rfl (c.toS.trans (eM.grow (tk:=D.toks) c.rel I).toS) (c.rel.bA x) F e3) λr s' h=>aO h λv h1 zz13=>h1▸zz13
end
section
variable{locs:List (Option Loc)} {A:dA} {h:Heap} {st:St} {f:iU} {n k:Nat} {S:iy} {env:Env}
theorem sS(h:gA v=true):swapsWithSole [t] v line env=pure false:=by
 cases v with
 |ListComp=>exact ff h
 |SetComp=>exact ff h
 |DictComp=>exact ff h
 |_=>rfl
theorem Mq(x:h.Ns L m):∃o a b,h.get? L=some o/\o.data=.dict a b:=by exact Zo x λo a b c d _=>⟨o,a,b,c,d⟩
theorem xR(H:jV d f n)(hi:BC e=true)(hcm:gA O=false)(U:S.xZ x i=true)(F:aw d.T k S O e=true)(u:ay S env locs) (X:fq A n) (R:Rel d locs W st.r st.g s.heap) (Y:f.e e st=some (N,j)):wpAny (model d.prog d.w) A (exec (.Assign [.Name x P] O E) env) (FP d locs s W (j.put i<|some N) .dK) No s:=by
 cases e with
 |comp elt gs=>
  obtain⟨l,t,a,vp,rfl⟩:=JO F;obtain⟨b,p⟩:∃b,swapsWith (.ListComp l t a vp) (some (.Name x P)) E.line env=pure b:=⟨_,rfl⟩;induction b with
  |false=>refine Ub (o0 (H.e F u X R Y) (λv s1 y=>?_) λ_ _ z=>z) p;exact o0 (yB u U y) (λ_ s2 q=>q) λ_ _ z=>z
  |true=>
   rw[exec_Assign_Name_used _ _ _ _ p];refine dL<|ft<|dL ?_
   refine dL<|o0 (H.cu (use:=some<|assign (.Name x P) env) (Q:=λ_ M=>FP d locs s W (j.put i<|some N) .dK .next M) F u X R Y λacc C s1 y=>?_) (λ_ M hq=>wpAny_pure<|wpAny_pure hq) λ_ _ z=>z
   obtain⟨W1,y1,y2,y3,y4,Z,D,m,L⟩:=y;refine kK<|o0 (s6 u U y1 y2 y3) (λ_ s2⟨W2,q1,q2⟩=>?_) λ_ _ z=>z
   refine xY (Mq L) λo es ep V hd=>?_;obtain⟨q3,q4⟩:=q2 C o y4 V λ_=>D;refine⟨m,?_,λh' sb=>.next<|q1.but Z q4 sb.extBut⟩
   refine xY L λo' I J c r=>?_;replace c:=V▸c;obtain rfl:=sJ c;exact⟨o,I,J,q3,r⟩
 |_=>exact ff hi
theorem He{g k x}(h:sW g c k x=some y)(q:cA g c=some l):∃(j:Int)(m:Nat),k=.int j/\0<=j/\idx l j=some m/\y=.ml none (l.set m x):=by delta sW at h;rw[q]at h;exact bE h λj d h=>iE h λb h=>mE h λm a h=>⟨j,m,PV.cU d,b,a,h.symm⟩
theorem Hf{g k x}(h:sW g c k x=some y)(q:cA g c=none):∃d,uj g c=some d/\d.1.length<az/\keyOk c k d.1=true/\y=.md none (upd d.1 d.2 k x).1 (upd d.1 d.2 k x).2:=by delta sW at h;rw[q]at h;exact bE h λd e h=>iE h λa h=>aE a λa b=>⟨d,e,dT a,b,(bn h).symm⟩
theorem Ha(H:jV C f n)(hns:tC pi=true)(Z:aw C.T k S po o=true)(hci:aw C.T k S pi i=true)(hc:aw C.T k S pv e=true)(Y:ay S env locs) (J:fq A n) (R:Rel C locs W st.r st.g s.heap) (e2:f.e e st=some (rv,O)) (e3:gS f o O=some (p,N)) (e4:f.e i N=some (rk,x)) (E:p.aD x=some c) (e6:sW x.g c rk.eJ rv.eJ=some y) (e7:p.store x y=some P):wpAny (model C.prog C.w) A (exec (.Assign [.Subscript po pi p1] pv pos) env) (FP C locs s W P .dK) No s:=by
 refine wpAny_Assign_Subscript (EP.C9 (H.e hc Y J R e2) λv s1 W1 x1 I=>OP.on (jK H.toqh Z Y J x1.rel e3) λov s2 W2 M o2=>EP.C9 (H.e hci Y J M.rel e4) λiv s3 W3 b Q=>?_) EC;have F:=o2.keep b.ext b.keep;have I:=aA.mono (M.trans b).ext.le I;have X:=(x1.trans M).trans b;induction q:cA x.g c with
 |some l=>refine AG (He e6 q) λj m hj h0 hm u=>?_;subst u;rw[hj]at Q;obtain⟨t,rfl⟩:=aA.i Q;refine uQ (d6 b.rel (F.wD b.rel E) q) λa xs n' V=>?_;rw[i7 E e7]at V;exact o0 (Bp b.rel F E e7 V h0 hm I) (λ_ s4 L=>.next (X.trans L).toS) λ_ _ z=>z
 |none=>refine Lh (Hf e6 q) λd hd hl hk u=>?_;subst u;refine eV (iq b.rel (F.wD b.rel E) hd) λa u U D=>?_;subst u;exact o0 (BQ b.rel F E e7 U (D.key b.rel hk Q) I hl J.Wu) (λ_ s4 L=>.next (X.trans L).toS) λ_ _ z=>z
theorem J9(B:lu b)(H:jV b f n)(U:b.T.AN.contains x=true)(t:aw b.T k S O o=true)(X:aw b.T k S M e=true)(C:ay S env locs) (D:fq A n) (R:Rel b locs W st.r st.g s.heap) (Z:f.e e st=some (I,p)) (Y:f.e o p=some (.v<|.aZ m,a)) (L:a.g[m]?=some (.inst c)) (J:a.g[m+1]?=some (.iK y F)) (i:TR y F x I.eJ=some d):wpAny (model b.prog b.w) A (exec (.Assign [.Attribute O x p1] M N) env) (FP b locs s W {a with g:=a.g.set (m+1) d} .dK) No s:=by
 refine plainObj_wpAny_Assign_Attribute (EP.C9 (H.e X C D R Z) λv s1 W1 u Q=>EP.on (H.e t C D u.rel Y) λov s2 W2 l P _=>?_) ED;refine o0 (A8 B (wf.mp U) l.rel P (aA.mono l.ext.le Q) L J ?_) (λ_ s3 E=>.next<|(u.trans l).toS.trans E) λ_ _ z=>z
 delta TR at i;induction z:y.idxOf? x with
 |some j=>replace i:=z▸i;obtain rfl:=sJ i;exact .inl ⟨j,rfl,rfl⟩
 |none=>rw[z]at i;exact iE i λV q=>by obtain rfl:=sJ q;exact .inr ⟨rfl,V,rfl⟩
theorem Slots.len (h:Slots S a b):a.length=b.length:=by
 induction h with
 |nil=>rfl
 |cons _ _ q=>exact congrArg (· +1) q
theorem RI(H:jV c f n)(u:nM S D i=true)(y:i.Nodup)(C:gA F=true)(O:oV F=true)(Z:aw c.T k S F e=true)(J:ay S env locs) (L:fq A n) (R:Rel c locs W st.r st.g s.heap) (e1:f.e e st=some (U,M)) (E:bY (.ns i) U.eJ M=some N):wpAny (model c.prog c.w) A (exec (.Assign [.Tuple D Y X] F pos) env) (FP c locs s W N .dK) No s:=by
 rcases uS (env:=env) D Y X F O with hw|hw
 .exact Yr (EP.C9 (H.e Z J L R e1) λv Q P d I=>TS.on (n6 J L.hd (t:=.ns i) (show rg S (.Tuple D Y X) (.ns i)=true from(sB.mpr ⟨u,decide_eq_true y⟩:(nM S D i&&decide i.Nodup)=true)) d.rel I E) λ_ s2 x2 _=>.next<|d.toS.trans x2) (sS C) hw
 .refine Assign_Tuple_swapped (EP.C9 (H.e Z J L R e1) λv Q P d I=>?_) (sS C) hw;generalize U.eJ=x at E I;cases x with
  |tup l=>
   obtain⟨a,j,m,rfl,z,r3,V⟩:∃a j n,v=.ref a/\P.O a=some (.fz (qy j n))/\j.size<=az/\ah c P l j.toList:=I;have p:=rH u;rw[show(vt D).length=j.size from p.len.trans<|(oY E).trans V.length]
   refine unpackItems_tuple L.hd ⟨_,d.rel.fz _ _ z,rfl,m,rfl⟩ λh' ex=>?_;have S1:=(eM.grow (tk:=Q.toks) d.rel ⟨λb o e=>ex b o (bF<|gQ e) e⟩).toS
   exact TS.on (sZ J p.rev (Stores.binds env _) V.reverse (yM y E) S1.rel) λ_ _ q _=>.next<|d.toS.trans<|S1.trans q
  |_=>exact nE E
theorem OV(H:jV d f n)(F:S.xZ x i=true)(y:op=.Add\/op=.Sub\/op=.BitOr)(V:aw d.T k S N e=true)(o:ay S env locs) (X:fq A n) (R:Rel d locs W st.r st.g s.heap) (e1:st.get i=some (.v<|.int a)) (Z:f.e e st=some (.v<|.int b,m)) (D:binI op a b=some c):wpAny (model d.prog d.w) A (exec (.AugAssign (.Name x p1) op N O) env) (FP d locs s W (m.put i<|some<|.v<|.int c) .dK) No s:=by
 refine aE (CM F).1 λC Y=>aE C λC _=>?_;refine aO (o.loc x i<|dT C) λP U Q=>?_
 refine aO (R.look U<|get_slot e1) λv M L=>?_
 obtain⟨ta,rfl⟩:∃t,v=.int a t:=L;refine wpAny_AugAssign_Name<|yK (i:=i) o Q M (bN Y)<|EP.on (H.e V o X R Z) λv u W1 J I _=>?_
 obtain⟨tb,rfl⟩:∃t,v=.int b t:=I;have j:∀E,wpAny (model d.prog d.w) A (storeName env x<|.int c E) (λ_=>FP d locs s W (m.put i<|some<|.v<|.int c) .dK .next) No {u with toks:=u.toks+1}:=λE=>
  have l:=J.tok (tk:=u.toks+1)
  o0 (CJ o F l.rel (p:=.int c) ⟨_,rfl⟩) (λ_ s2 q=>.next<|l.toS.trans q) λ_ _ z=>z
 rcases y with rfl|rfl|rfl
 .obtain rfl:=sJ D;exact Yq<|j _
 .obtain rfl:=sJ D;exact Yn<|j _
 .obtain rfl:=sJ D;exact Yp<|j _
theorem VJ(hc:aw d.T k S L (.v i)=true)(Z:ay S env locs)(R:Rel d locs W st.r st.g s.heap)(e:st.get i=some c)(q:(if c.LG then(if c.tag.isNone then(Fl.ret c,st.put i none)else(.ret<|.v c.eJ,st.put i none))else(.ret c,st))=(F,j)):wpAny (model d.prog d.w) A (exec (.Return (some L) N) env) (FP d locs s W j F) No s:=by
 refine Ua ?_;refine nF (k8 hc) λx px p V=>?_;subst p;refine nZ V Z R e λO v Q P l3 u=>?_;have I:(∃a,v=.ref a/\W.O a=some (bV i c)/\ey d W s.heap a c)->(∀a,c.tag=none->(∃b,xU a=.ref b/\(W.O b=none\/∃i,W.O b=some (.mu i))/\ey d W s.heap b c/\(s.heap.get? b=none\/∃i,W.O b=some (.mu i)))->F6 d s W s W c (.ref a))->(if c.tag.isNone then(Fl.ret c,st.put i none)else(.ret<|.v c.eJ,st.put i none))=(F,j)->FP d locs s W j F (.ret v) s:=by
  rintro⟨a,rfl,z,M⟩ X q;induction m:c.tag with
  |none=>
   replace q:=m▸q;obtain⟨rfl,rfl⟩:=pJ q;have H:W.O a=some (.mu i):=by refine z.trans ?_;delta bV;refine m▸?_;rfl
   exact⟨W,⟨⟨s.heap,s.toks,rfl⟩,.rfl,.rfl,R.mS⟩,_,rfl,X a m ⟨a,rfl,.inr ⟨i,H⟩,M,.inr ⟨i,H⟩⟩⟩
  |some t=>
   rw[m]at q;obtain⟨rfl,rfl⟩:=pJ q;refine aO M.eJ λo Y U=>?_;have E:=dY i c;have J:=U _ (.tag λo' e=>by replace e:=z▸e;rcases E with q|q<;>(replace e:=q▸e;cases e)) (Gh.aG ..)
   refine⟨_,⟨⟨s.heap,s.toks,rfl⟩,Ext.freeze E z,.rfl,?_⟩,_,rfl,J⟩;have:=(R.freeze E z Y Q P J).mS (i:=i);simpa[St.put]using this
 induction c with
 |v y=>obtain⟨rfl,rfl⟩:=pJ q;exact⟨W,.n8 R,_,rfl,u⟩
 |ml t l=>exact I u (λa D C=>⟨D,C⟩) q
 |md t ks vs=>exact I u (λa D C=>⟨D,C⟩) q
theorem VK(H:jV a f n)(l:aw a.T k S d e=true)(j:ay S env locs)(m:fq A n)(R:Rel a locs W st.r st.g s.heap)(o:f.e e st=some (c,b)):wpAny (model a.prog a.w) A (exec (.Return (some d) i) env) (FP a locs s W b<|.ret c) No s:=Ua<|o0 (H.e l j m R o) (λv p y=>y.ret) λ_ _ z=>z
theorem I6(a:ay S env locs):interactive env=false:=by delta interactive;exact a.kind▸rfl
theorem Hg(B:lu l)(H:jV l f n)(hc:xJ l.T k S Z V=true)(C:ay S env locs) (J:fq A n) (R:Rel l locs W st.r st.g s.heap) (j:cH f V st=some (L,st')):wpAny (model l.prog l.w) A (exec Z env) (FP l locs s W st' L) No s:=by
 match k,hc with
 |k+1,hc=>
 refine kB.casesOn (motive:=λZ V _=>cH f V st=some (L,st')->wpAny (model l.prog l.w) A (exec Z env) (FP l locs s W st' L) No s) (JP hc) ?_ ?_ ?_ ?_ ?_ ?_ ?_ ?_ ?_ ?_ ?_ j
 .exact λe=>nE e
 .intro x p1 p v i e h E I j;refine bE j λy F j=>mE j λz m q=>?_;obtain⟨rfl,rfl⟩:=pJ q;obtain rfl:=sJ m;induction hn:gA v with
  |true=>exact Ub (o0 (H.e h C J R F) (λv s1 y=>yB C E y) λ_ _ z=>z)<|sT hn
  |false=>exact xR H (by rw[hn]at I;exact I) hn E h C J R F
 .exact λh E I O h4 j=>bE j λy F j=>mE j λz m q=>pE (D:=λL st'=>wpAny (model l.prog l.w) A _ (FP l locs s W st' L) No s) q<|RI H E I O h4 h C J R F m
 .exact λh E I O j=>bE j λy F j=>mE j λz m q=>bE m λp m e=>bE e λkk M e=>bE e λc U e=>bE e λy Q e7=>pE (D:=λL st'=>wpAny (model l.prog l.w) A _ (FP l locs s W st' L) No s) q<|Ha H E I O h C J R F m M U Q e7
 .intro po x p1 p v o e h E I j;refine bE j λy F j=>mE j λz m q=>bE m λu Q e=>bE e λu2 M e=>mE e λd U e=>?_;refine Ao (qW M) λY X q3=>?_;obtain⟨rfl,rfl⟩:=pJ q;subst e;exact J9 B H E I h C J R F (Q.trans<|Y▸rfl) X q3 U
 .intro x p1 p op v i e P h E j;refine bE j λo F j=>bE j λy m j=>bE j λa M j=>bE j λb U j=>mE j λc Q q=>?_;obtain⟨rfl,rfl⟩:=pJ q;exact OV H E P h C J R (RV.cU M▸F) (m.trans<|(RV.cU U)▸rfl) Q
 .exact λP E h I j=>bE j λy F j=>bE j λsrc m j=>mE j λz M q=>pE (D:=λL st'=>wpAny (model l.prog l.w) A _ (FP l locs s W st' L) No s) q<|NW H P E h I C J R F m M
 .exact λh I j=>wpAny_While<|bw (Eu H h I C J R j) λr s' q=>aO q λv Y X=>Y▸X
 .intro t bd be p e V ns h I O j;refine bE j λy F m=>wpAny_If<|BP.on (H.b (st':=y.2) (b:=y.1) h C J R F) λs1 W1 N=>?_
  induction ht:y.1 with
  |true=>rw[ht]at m;exact o0 (H.iT I C J N.rel m) (λv s2 q=>FP.then N.toS R q) λ_ _ z=>z
  |false=>rw[ht]at m;exact o0 (H.iT O C J N.rel m) (λv s2 q=>FP.then N.toS R q) λ_ _ z=>z
 .intro v p e h j;have j:yR f e st=some (L,st'):=j;delta yR at j;induction z:e.var? with
  |some i=>rw[z]at j;exact mE j λrv E q=>VJ (Ex.var_eq z▸h) C R E q
  |none=>rw[z]at j;exact mE j λy E q=>pE (D:=λL st'=>wpAny (model l.prog l.w) A _ (FP l locs s W st' L) No s) q<|VK H h C J R E
 .intro v p e P h j;refine bE j λy F j=>iE j λhy q=>?_;obtain⟨rfl,rfl⟩:=se q;exact wpAny_Expr_any (EP.on (H.e (st':=y.2) h C J R F) λv s1 W1 N _ _=>.next N.toS) (I6 C)<|sT P
theorem OJ(B:lu b)(H:jV b f n)(N:ay S env locs)(P:fq A n){i}:∀{C j W st a s},iR (xJ b.T k S) i C=true->Rel b locs W st.r st.g s.heap->ia f C st=some (j,a)->wpAny (model b.prog b.w) A (execs i env) (FP b locs s W a j) No s:=by
 induction i with
 |nil=>
  intro t;induction t with
  |nil=>intro j W st a s _ R e;obtain⟨rfl,rfl⟩:=se e;exact wpAny_execs_nil<|.next<|.n8 R
  |cons _ _=>exact@λ_ _ _ _ _ h _ _=>ff h
 |cons p i L=>
  intro o;induction o with
  |nil=>exact@λ_ _ _ _ _ h _ _=>ff h
  |cons m C=>
   exact@λj W st a s O R e=>aE O λE D=>bE e λy Q l=>by
    obtain⟨F,J⟩:=y;refine wpAny_execs_cons<|o0 (Hg B H E N P R Q) (λv V y=>?_) λ_ _ z=>z
    obtain⟨I,c,d⟩:=y;induction F with
    |dK=>subst d;exact o0 (L D c.rel l) (λv U q=>FP.then c R q) λ_ _ z=>z
    |brk=>subst d;obtain⟨rfl,rfl⟩:=se l;exact⟨I,c,rfl⟩
    |cnt=>subst d;obtain⟨rfl,rfl⟩:=se l;exact⟨I,c,rfl⟩
    |ret X=>refine aO d λu x M=>?_;subst x;obtain⟨rfl,rfl⟩:=se l;exact⟨I,c,u,rfl,M⟩
end
section
variable{Z:Cx} {A:dA} {s:Shared} {r:List (Option RV)} {env:Env}
noncomputable def B0(a:List jp)(env:Env):Sem Bool:=forIn a true λc r=>if r=true then do let b<-bW c env (eval c env);pure (bO b)else pure (bO r)
def pT(Z:Cx)(A:dA)(g:jp)(c:List NE)(e:ng)(i:Pos)(d:Nat)(h:Value)(env:Env)(Q:Shared->Prop)(s:Shared):Prop:=match c[d]? with
 |some k=>wpAny (model Z.prog Z.w) A (eval k.iter env) (λx b=>wpAny (model Z.prog Z.w) A (pyIter x) (λj a=>codeAny (model Z.prog Z.w) A (.compStart (.ListComp g c e i) d j h env) (λr f=>∃l,r=.ok l/\Q f) a) No b) No s
 |none=>wpAny (model Z.prog Z.w) A (eval g env) (λv b=>wpAny (model Z.prog Z.w) A (call (.builtin "list.append") [h,v]) (λ_ a=>Q a) No b) No s
theorem u0{g}(H:b[d]?=some g)(E:b.all (λg=>g.is_async==0&&eS g.iter)=true) (h:wpAny (model Z.prog Z.w) A (pyNext F) (λr m=>match r with
  |none=>R (.ok .next) m
  |some v=>wpAny (model Z.prog Z.w) A (letOwnedTupleGo g.target F v) (λ_ l=>wpAny (model Z.prog Z.w) A (assign g.target env v) (λ_ u=>wpAny (model Z.prog Z.w) A (B0 g.ifs env) (λI f=>if I=true then pT Z A q b c p (d+1) t env (λk=>codeAny (model Z.prog Z.w) A (.compLoop (.ListComp q b c p) d F t env) R k) f else codeAny (model Z.prog Z.w) A (.compLoop (.ListComp q b c p) d F t env) R f) No u) No l) No m) No s):
 codeAny (model Z.prog Z.w) A (.compLoop (.ListComp q b c p) d F t env) R s:=by
 refine oI ?_;refine K5 ?_;have j:∀{i:Nat}{g:NE},b[i]?=some g->(g.is_async !=0)=false/\eS g.iter=true:=λ{i g} H=>by
  have:=bv.mp E g<|bZ H
  simp only[fM]at this;exact⟨by simpa[bne]using this.1,this.2⟩
 delta compTurn;simp only[H];rw[((j H).1)];refine dL<|ft<|iG xz<|dL<|o0 h (λr m y=>?_) λ_ _ e=>e.elim
 induction r with
 |none=>exact wpAny_pure y
 |some v=>
  refine dL<|o0 y (λ_ l z=>?_) λ_ _ e=>e.elim
  refine dL<|o0 z (λ_ u D=>dL<|o0 D (λI f a=>?_) λ_ _ e=>e.elim) λ_ _ e=>e.elim
  induction I with
  |false=>exact wpAny_pure ⟨rfl,a⟩
  |true=>
   replace a:pT Z A q b c p (d+1) t env _ f:=a;delta pT at a;induction J:b[d+1]? with
   |none=>replace a:=J▸a;exact dL<|dL<|o0 a (λv k o=>dL<|o0 o (λ_ C n=>wpAny_pure<|wpAny_pure ⟨rfl,n⟩) λ_ _ e=>e.elim) λ_ _ e=>e.elim
   |some T=>
    rw[J]at a;obtain⟨S,Q⟩:=j J;simp only[S]at a⊢;refine dL<|o0 a (λx k o=>dL<|ft ?_) λ_ _ e=>e.elim
    refine iG xz ?_;refine dL<|K4 (jS Q x)<|dL<|cG<|o0 o (λP C n=>?_) λ_ _ e=>e.elim
    refine dL<|wpAny_runOwn<|bw n λr L M=>aO M λU O N=>?_
    subst O;exact wpAny_pure ⟨rfl,N⟩
theorem Fh(x:sH Z N W s.heap b c)(h:Q (.ref b) s):wpAny (model Z.prog Z.w) A (pyIter<|.ref b) Q E s:=by
 induction x with
 |lst a=>exact Kq a h
 |tup a=>exact wpAny_pyIter_tupleiter a h
 |iH a=>exact wpAny_pyIter_rangeiter a h
 |aZ a=>exact Kq a h
theorem mz{g}(k:a[d]?=some g)(f:a.all (λg=>g.is_async==0&&eS g.iter)=true)(I:sH Z N W s.heap b l) (h:codeAny (model Z.prog Z.w) A (.compLoop (.ListComp i a c e) d (.ref b) j env) R s):codeAny (model Z.prog Z.w) A (.compStart (.ListComp i a c e) d (.ref b) j env) R s:=by
 have n:(g.is_async !=0)=false:=by
  have:=bv.mp f g<|bZ k
  simp only[fM]at this;simpa[bne]using this.1
 refine oI ?_;refine wpAny_notedAt ?_;delta compStart;have m:clausesOf (.ListComp i a c e)=a:=rfl;rw[m,k];simp only[Option.elim,n,jD,if_false];refine dL<|UJ<|wpAny_ite ?_
 split
 .first
   |exact dL<|wpAny_pure<|wpAny_pure ⟨rfl,h⟩
   |exact wpAny_pure ⟨rfl,h⟩
 .refine dL (i9 ?_);refine dL<|ft<|dL<|Fh I ?_
  exact wpAny_pure ⟨rfl,h⟩
end
section
variable{Z:Cx} {locs:List (Option Loc)} {A:dA} {W W':Gh} {s s':Shared} {h':Heap} {r:List (Option RV)} {g:List GO} {f:iU} {n k:Nat} {S:iy} {env:Env} {C D:Addr}
theorem yv(l:List jp):(forIn l false λc r=>if r=true then do let a<-bW c env (eval c env);pure (bO a)else pure (bO r))=(pure false:Sem Bool):=by
 induction l with
 |nil=>rfl
 |cons c l b=>rw[lN];exact b
theorem FJ(H:qh Z f n)(v:ay S env locs)(E:fq A n){a}:∀{p c W st st' s},cJ (aw Z.T k S) a p=true->Rel Z locs W st.r st.g s.heap->iQ f p st=some (c,st')->wpAny (model Z.prog Z.w) A (B0 a env) (BP Z locs s W st' c) No s:=by
 induction a with
 |nil=>
  intro j;induction j with
  |nil=>intro c W st st' s _ R e;obtain⟨rfl,rfl⟩:=se e;exact wpAny_pure ⟨rfl,W,.n8 R⟩
  |cons _ _=>exact@λ_ _ _ _ _ h _ _=>ff h
 |cons M a u=>
  intro i;induction i with
  |nil=>exact@λ_ _ _ _ _ h _ _=>ff h
  |cons e p=>
   exact@λc W st st' s x R I=>aE x λo m=>bE I λy F d=>by
    delta B0;rw[lN];refine dL<|dL<|BP.on (H.b (st':=y.2) (b:=y.1) o v E R F) λL J l=>wpAny_pure ?_
    induction t:y.1 with
    |false=>replace d:=t▸d;obtain⟨rfl,rfl⟩:=se d;dsimp only;rw[yv];exact wpAny_pure ⟨rfl,J,l⟩
    |true=>replace d:=t▸d;exact o0 (u m l.rel d) (λ_ _ q=>BP.then l q) λ_ _ z=>z
structure rJ(Z:Cx)(locs:List (Option Loc))(D C:Addr)(s:Shared)(W:Gh)(y:List PV×St)(s':Shared)(W':Gh):Prop where
 same:∃h' tk',s'={s with heap:=h',toks:=tk'}
 ext:Ext s.heap W W'
 keep:∀x o,s.heap.get? x=some o->x≠D->x≠C->(W.O x=none\/W.O x=some .fr\/∃i,W.O x=some (.ce i))->s'.heap.get? x=some o
 rel:Rel Z locs W' y.2.r y.2.g s'.heap
 acc:∃xs n,s'.heap.get? D=some (jz xs n)/\xs.size<=az/\ah Z W' y.1 xs.toList
 un:W'.O D=none
 fr:W'.O C=some .fr
theorem rJ.trans (x:rJ Z locs D C s W u s' W') (z:rJ Z locs D C s' W' F H L) (Q:W.O C=some .fr):rJ Z locs D C s W F H L:=by
 refine jF x.same λE X V=>?_;refine jF z.same λJ P U=>?_;refine⟨⟨J,P,by rw[U,V]⟩,⟨x.ext.le.trans z.ext.le,λb o q e=>?_,λb e=>z.ext.fr b (x.ext.fr b e),λb i e=>z.ext.ce b i (x.ext.ce b i e),λb i e=>z.ext.gl b i (x.ext.gl b i e),λb i e=>(x.ext.mu b i e).elim λt u=>AH u λE J=>z.ext.up E J,λb i e=>(x.ext.ln b i e).elim (z.ext.ln b i) λu=>fN u λo q=>.inr ⟨o,z.ext.le.fz b o q⟩,λb i e=>x.ext.lw b i (z.ext.lw b i e)⟩,λb o e N M t=>?_,z.rel,z.acc,z.un,z.fr⟩
 .by_cases O:b=D
  .subst O;exact z.un
  .have I:b≠C:=by rintro rfl;replace e:=Q▸e;cases e
   exact z.ext.new b o (x.keep b o q O I<|.inl e)<|x.ext.new b o q e
 .have E:=x.keep b o e N M t;refine z.keep b o E N M ?_;rcases t with t|t|⟨i,t⟩
  .exact .inl<|x.ext.new b o e t
  .exact .inr<|.inl<|x.ext.fr b t
  .exact .inr<|.inr ⟨i,x.ext.ce b i t⟩
theorem eM.Zw (x:eM Z locs s W u s' W') (F:∃q n,s.heap.get? D=some (jz q n)/\q.size<=az/\ah Z W l q.toList) (z:W.O D=none) (J:W.O C=some .fr):rJ Z locs D C s W (l,u) s' W':=by
 refine ju F λq m E I H=>?_;refine⟨x.same,x.ext,λb o e _ _ t=>?_,x.rel,⟨q,m,x.keep.free _ _ E z,I,H.mono x.ext.le⟩,x.ext.new _ _ E z,x.ext.fr _ J⟩;rcases t with t|t|⟨i,t⟩
 .exact x.keep.free b o e t
 .exact x.keep.fr b o e t
 .exact x.keep.ce b o i e t
theorem rJ.but (x:rJ Z locs D C s W y s' W') (I:s.heap.get? b=none) (J:W'.O b=none) (L:b≠D) (k:fA b s'.heap h'):rJ Z locs D C s W y {s' with heap:=h',toks:=tk} W':=by refine sA λC E=>?_;refine jF x.same λU Q q=>?_;refine ju x.acc λu m P O N=>?_;refine E ?_;exact⟨⟨h',tk,by rw[q]⟩,x.ext,λc o e H F z=>k c o (by rintro rfl;replace e:=I▸e;exact nE e) (x.keep c o e H F z),x.rel.tagged λc t o q M=>k c o (by rintro rfl;replace q:=J▸q;exact nE q) M,⟨u,m,k _ _ (oM L) P,O,N⟩,x.un,x.fr⟩
theorem rJ.target (x:rV Z locs s W z s' W) (k:fA C s.heap s'.heap) (H:∃q n,s.heap.get? D=some (jz q n)/\q.size<=az/\ah Z W l q.toList) (E:W.O D=none) (u:W.O C=some .fr):rJ Z locs D C s W (l,z) s' W:=by refine ju H λq m L J I=>?_;exact⟨x.same,.rfl,λb o e _ F _=>k b o F e,x.rel,⟨q,m,k _ _ (by rintro rfl;replace u:=E▸u;exact nE u) L,J,I⟩,E,u⟩
end
section
variable{σ ε:Type}
theorem tP{a}(f:∀x y o b,a x y=some (o,b)->o=none):∀{y}{o:Option ε}{b:σ},bb a l y=some (o,b)->o=none:=by
 induction l with
 |nil=>intro y o b e;obtain⟨rfl,rfl⟩:=se e;rfl
 |cons x l d=>exact@λy o b e=>bE e λz g c=>by rw[f x y z.1 z.2 g]at c;exact d c
theorem Bo{a}(g:∀x y o b,a x y=some (o,b)->o=none):∀{i y}{o:Option ε}{b:σ},je m n a k i y=some (o,b)->o=none:=by
 induction k with
 |zero=>exact@λi y o b e=>nE e
 |succ k f=>
  exact@λi y o b e=>bE e λj _ e=>bE e λl _ e=>by
   induction c:l[i]? with
   |none=>replace e:=c▸e;obtain⟨rfl,rfl⟩:=se e;rfl
   |some x=>rw[c]at e;exact bE e λz h d=>by rw[g x y z.1 z.2 h]at d;exact f d
theorem tN{a}(d:∀x y o b,a x y=some (o,b)->o=none){o:Option ε}{b:σ}(e:fB f a c y=some (o,b)):o=none:=by
 induction c with
 |l r=>exact tP d e
 |g n k i=>exact Bo d e
inductive Zj(f:iU)(j:List Nat)(c:σ->St)(m:St->σ->σ)(n:Ex)(a:PV->σ->Option (Option ε×σ))(y:σ):Option ε->σ->Prop
 |Sn {i:Nat} {t:Option Nat} {l:List PV} {o:Option ε} {d:σ} (q:n=.v i) (h:(c y).get i=some (.ml t l)) (w:j.contains i=false) (e:bb a l (m ((c y).put i none) y)=some (o,d)):Zj f j c m n a y o (m ((c d).put i<|some<|.ml t l) d)
 |val {i:Nat} {p:PV} {b:Src} {o:Option ε} {d:σ} (q:n=.v i) (h:(c y).get i=some (.v p)) (u:srcOf (c y).g (.v p)=some b) (e:fB (λs=>(c s).g) a b y=some (o,d)):Zj f j c m n a y o d
 |ex {r:RV} {k:St} {b:Src} {o:Option ε} {d:σ} (h:f.e n (c y)=some (r,k)) (u:srcOf k.g r=some b) (e:fB (λs=>(c s).g) a b (m k y)=some (o,d)):Zj f j c m n a y o d
theorem ub{o:Option ε}{j:σ}(e:eY f g r m k a y=some (o,j)):Zj f g r m k a y o j:=by
 delta eY at e;induction b:k.var? with
 |some i=>
  rw[b]at e;refine bE e λx c e=>?_;induction x with
  |v p=>exact bE e λd h e=>.val (Ex.var_eq b) c h e
  |ml t l=>exact iE e λn e=>mE e λz s q=>pE q<|.Sn (Ex.var_eq b) c n s
  |md=>exact nE e
 |none=>replace e:=b▸e;exact bE e λx c e=>bE e λd h e=>.ex c h e
theorem zI{a}(d:∀x y o c,a x y=some (o,c)->o=none){o:Option ε}{c:σ}(e:eY f g j h i a y=some (o,c)):o=none:=by
 induction ub e with
 |Sn _ _ _ b=>exact tP d b
 |val _ _ _ b=>exact tN d b
 |ex _ _ b=>exact tN d b
theorem zJ:∀{gs y o b},KZ f h i gs y=some (o,b)->o=none
 |[],y,o,b,e=>iE e λ_ e=>mE e λ_ _ q=>by obtain⟨rfl,rfl⟩:=pJ q;rfl
 |(t,l,m)::gs,y,o,b,e=>zI (λx z o j d=>bE d λk _ d=>bE d λc _ a=>by
  induction g:c.1 with
  |true=>replace a:=g▸a;exact zJ (gs:=gs) a
  |false=>replace a:=g▸a;obtain⟨rfl,rfl⟩:=se a;rfl) e
end
section
variable{Z:Cx} {locs:List (Option Loc)} {A:dA} {W W':Gh} {s s':Shared} {h:Heap} {r:List (Option RV)} {g:List GO} {st st':St} {f:iU} {n k:Nat} {S:iy} {env:Env} {C D:Addr} {pelt:jp} {gens:List NE} {scope:ng} {pos:Pos} {d:Nat}
theorem B1(x:pT Z A pelt gens scope pos d a env Q s)(h:∀s',Q s'->l s'):pT Z A pelt gens scope pos d a env l s:=by
 delta pT at x⊢;induction e:gens[d]? with
 |none=>simp only[e]at x⊢;exact o0 x (λ_ _ y=>o0 y (λ_ _ z=>h _ z) λ_ _ z=>z) λ_ _ z=>z
 |some g=>simp only[e]at x⊢;exact o0 x (λ_ _ y=>o0 y (λ_ _ z=>bw z λr m b=>aO b λj i c=>⟨j,i,h _ c⟩) λ_ _ z=>z) λ_ _ z=>z
theorem sH.WA (x:sH Z (λa=>a=D) W s.heap b I) (M:W.O b=none) (J:b≠D) (z:W.O C=some .fr) (c:rJ Z locs D C s W y s' W'):sH Z (λa=>a=D) W' s'.heap b I:=by
 have kb:∀o,s.heap.get? b=some o->s'.heap.get? b=some o:=λo e=>c.keep b o e J (by rintro rfl;replace z:=M▸z;exact nE z)<|.inl M
 have st:∀{a o},kz W s.heap a o->a≠D->kz W' s'.heap a o:=by
  rintro a o ⟨u,h2|h2⟩ N
  .exact⟨c.keep a o u N (by rintro rfl;replace z:=h2▸z;exact nE z)<|.inl h2,.inl<|c.ext.new a o u h2⟩
  .exact⟨c.rel.fz a o<|c.ext.le.fz a o h2,.inr<|c.ext.le.fz a o h2⟩
 induction x with
 |lst u h2 H F L=>obtain⟨o,E,q⟩:=u;exact .lst ⟨o,kb _ E,q⟩ (st h2 F) H F<|L.mono c.ext.le
 |tup u h2 H F L=>obtain⟨o,E,q⟩:=u;exact .tup ⟨o,kb _ E,q⟩ (st h2 F) H F<|L.mono c.ext.le
 |iH u=>exact .iH<|kb _ u
 |aZ u h2 H=>refine aO u λo E q=>?_;exact .aZ ⟨o,kb _ E,q⟩ (c.ext.le.gl _ _ h2) H
def AccAt(Z:Cx)(W:Gh)(h:Heap)(D:Addr)(l:List PV):Prop:=∃a n,h.get? D=some (jz a n)/\a.size<=az/\ah Z W l a.toList
def Ae(Z:Cx)(locs:List (Option Loc))(A:dA)(f:iU)(a:List Nat)(b:Ex)(e:List (Tg×Ex×List Ex))(pelt:jp)(gens:List NE)(scope:ng)(pos:Pos)(d:Nat)(env:Env)(D C:Addr):Prop:=∀{y c:List PV×St}{o:Option Unit}{s:Shared}{W:Gh},Rel Z locs W y.2.r y.2.g s.heap->AccAt Z W s.heap D y.1->W.O D=none->W.O C=some .fr->KZ f a b e y=some (o,c)->pT Z A pelt gens scope pos d (.ref D) env (λs'=>∃W',rJ Z locs D C s W c s' W') s
def Ea(f:iU)(a:List Nat)(b:Ex)(t:Tg)(j:List Ex)(i:List (Tg×Ex×List Ex))(x:PV)(z:List PV×St):Option (Option Unit×(List PV×St)):=(bY t x z.2).bind λe=>(iQ f j e).bind λc=>if c.1 then KZ f a b i (z.1,c.2)else some (none,(z.1,c.2))
theorem vR(H:jV Z f n)(hb:fq A n)(he:ay S env locs){L Q gc}(hg:gens[d]?=some gc)(P:gens.all (λg=>g.is_async==0&&eS g.iter)=true){t cs gs} (hct:rg S gc.target t=true) (M:∀i∈kH t,uz locs C i) (hcs:cJ (aw Z.T k S) gc.ifs cs=true) (EG:Ae Z locs A f L Q gs pelt gens scope pos (d+1) env D C) {b} (O:s.heap.get? b=none) (p:b≠D) (hC:W.O C=some .fr):∀(m){src R V F J X},E7 src=m->rJ Z locs D C s W V F R->R.O b=none->sH Z (λa=>a=D) R F.heap b src->fB (λz:List PV×St=>z.2.g) (Ea f L Q t cs gs) src V=some (J,X)->codeAny (model Z.prog Z.w) A (.compLoop (.ListComp pelt gens scope pos) d (.ref b) (.ref D) env) (λr s'=>∃fl,r=.ok fl/\∃W',rJ Z locs D C s W X s' W') F:=by
 intro m;induction m using Pc with
 |ind m ih=>
  intro src R V F J X hm X1 zz14 I e;refine u0 hg P<|yJ (gl:=λz:List PV×St=>z.2.g) (y:=V) hb.hd X1.rel I e (λhr h' ex=>?_) λx j o y2 v h' tk hlt e1 hv I' ex alt=>?_
  .obtain⟨rfl,rfl⟩:=pJ hr;exact⟨_,rfl,_,X1.but O zz14 p ex⟩
  .have l:=X1.but (tk:=tk) O zz14 p ex;refine nH (src:=j) I' ?_;refine bE e1 λst2 e2 e1=>bE e1 λcc e3 u=>?_;refine TS.on (n6 he hb.hd hct l.rel hv e2) λ_ s3 X3 k3=>?_;have C3:=rJ.target X3 (k3 C M) l.acc l.un l.fr;refine BP.on (FJ (st':=cc.2) (c:=cc.1) H.toqh he hb hcs X3.rel e3) λs4 W4 X4=>?_;have E:=C3.trans (X4.Zw C3.acc C3.un C3.fr) l.fr;have go:∀{Y:Shared}{W5:Gh},o=none->rJ Z locs D C {F with heap:=h',toks:=tk} R y2 Y W5->codeAny (model Z.prog Z.w) A (.compLoop (.ListComp pelt gens scope pos) d (.ref b) (.ref D) env) (λr s'=>∃fl,r=.ok fl/\∃W',rJ Z locs D C s W X s' W') Y:=by
    rintro Y W5 rfl U;rcases alt with⟨q,q1,_⟩|⟨_,e5⟩
    .exact nE q1
    .exact nF I'.kind λob _ hob _=>ih (E7 j) (hm▸hlt) rfl (l.trans U hC) (U.ext.new b ob hob zz14) (I'.WA zz14 p l.fr U) e5
   induction N:cc.1 with
   |false=>replace u:=N▸u;refine AH (se u) λq1' q2'=>?_;subst q1';subst q2';exact go rfl E
   |true=>replace u:=N▸u;exact B1 (EG E.rel E.acc E.un E.fr u) λY q=>fN q λW5 U=>go (zJ u)<|E.trans U l.fr
theorem vz{X:Addr->Prop}(R:Rel Z locs W r g h)(hmu:gj rv=true)(N:W.O a=some (bV i rv))(M:ey Z W h a rv)(hl:locs[i]?=some (some E))(hv:bP h E (.ref a))(G:gI h h2)(ext:Ext h2 (W.tag a none) W') (F:∀x o,h2.get? x=some o->¬X x->((W.tag a none).O x=none\/(W.tag a none).O x=some .fr\/∃j,(W.tag a none).O x=some (.ce j))->h'.get? x=some o)(zz15:Rel Z locs W' st'.r st'.g h') (nX:¬X a) (nL:¬X E.at_):Ext h W (W'.tag a<|some<|bV i rv)/\Rel Z locs (W'.tag a<|some<|bV i rv) (st'.put i<|some rv).r (st'.put i<|some rv).g h'/\(∀x o,h.get? x=some o->¬X x->(W.O x=none\/W.O x=some .fr\/∃j,W.O x=some (.ce j))->h'.get? x=some o)/\W'.O a=none:=by
 refine aO M.eJ λoa Q _=>?_;have V:=G.keep _ _ Q;have P:(W.tag a none).O a=none:=Gh.aG ..;have T:=ext.new a oa V P;have h0:∀t,bV i rv=t->t=.mu i\/t=.le i:=by rintro t rfl;delta bV;split<;>simp
 have J:∀t,W.O a=some t->t=.mu i\/t=.le i:=λt e=>by replace e:=N▸e;obtain rfl:=sJ e;exact h0 _ rfl
 have u:∀{x:Addr},x≠a->(W.tag a none).O x=W.O x:=λq=>Gh.ag _ _ q;have p:∀{x:Addr},x≠a->(W'.tag a<|some<|bV i rv).O x=W'.O x:=λq=>Gh.ag _ _ q
 have w:∀x o,h.get? x=some o->¬X x->(W.O x=none\/W.O x=some .fr\/∃j,W.O x=some (.ce j))->h'.get? x=some o:=λx o e nx t=>by
  have b:x≠a:=by
   rintro rfl;rcases t with t|t|⟨j,t⟩
   .replace t:=N▸t;cases t
   .rcases J _ t with q|q<;>cases q
   .rcases J _ t with q|q<;>cases q
  exact F x o (G.keep _ _ e) nx (by refine(u b)▸t)
 have H:=F a oa V nX<|.inl P
 have O:W.Le (W'.tag a<|some<|bV i rv):=by
  refine⟨λx o e=>?_,λm x e=>ext.le.gl m x e⟩;have b:x≠a:=by rintro rfl;rcases J _ e with q|q<;>cases q
  exact(p b).trans<|ext.le.fz x o<|(u b).trans e
 refine⟨⟨O,λx o e q=>?_,λx e=>?_,λx j e=>?_,λx j e=>?_,λx j e=>?_,λx j e=>?_,λx j e=>?_⟩,?_,w,T⟩
 .have b:x≠a:=by rintro rfl;replace q:=N▸q;cases q
  exact(p b).trans<|ext.new x o (G.keep _ _ e)<|(u b).trans q
 .have b:x≠a:=by rintro rfl;rcases J _ e with q|q<;>cases q
  exact(p b).trans<|ext.fr x<|(u b).trans e
 .have b:x≠a:=by rintro rfl;rcases J _ e with q|q<;>cases q
  exact(p b).trans<|ext.ce x j<|(u b).trans e
 .have b:x≠a:=by rintro rfl;rcases J _ e with q|q<;>cases q
  exact(p b).trans<|ext.gl x j<|(u b).trans e
 .by_cases b:x=a
  .subst b;replace e:=N▸e;refine⟨_,Gh.aG ..,λj' q=>?_⟩;replace e:=q▸e;cases e
  .exact(p b)▸ext.mu x j (by refine(u b).trans<|e)
 .by_cases b:x=a
  .subst b;exact .inl<|(Gh.aG ..).trans<|N.symm.trans e
  .exact(p b)▸ext.ln x j ((u b).trans e)
 .by_cases b:x=a
  .subst b;rw[Gh.aG]at e;exact N.trans e
  .rw[p b]at e;have:=ext.lw x j e;rwa [u b]at this
 .have I:=zz15.AR (t:=bV i rv) T ⟨oa,H⟩ (by intro o q;rcases h0 _ rfl with z|z<;>(replace q:=z▸q;cases q))
  have U:=R.lo i E hl;have hlv:bP h' E (.ref a):=by
   induction E with
   |d L y=>exact aO hv λm q1' e=>xY q1' λo es ep ho r=>⟨m,⟨o,es,ep,w _ _ ho nL<|.inr<|.inl U.1,r⟩,e⟩
   |c c=>exact aO hv λo ho hd=>⟨o,w _ _ ho nL<|.inr<|.inr ⟨i,U.1⟩,hd⟩
  have hS:oG Z (W'.tag a<|some<|bV i rv) h' i rv (.ref a):=by
   have M':=M.at_ O (h':=h') λo e=>by replace e:=Q▸e;refine qE e ?_;exact H
   induction rv with
   |v=>exact ff hmu
   |ml t l=>exact⟨a,rfl,Gh.aG ..,M'⟩
   |md t ks vs=>exact⟨a,rfl,Gh.aG ..,M'⟩
  refine⟨I.sz,I.fz,I.base,I.gl,by simpa[St.put]using I.len,I.lo,I.ap,λj Y e=>?_⟩
  simp only[St.put]at e;by_cases q:i=j
  .subst q;replace e:=GB▸e;split at e
   .split at e
    .cases e;exact⟨E,_,hl,hlv,hS⟩
    .exact nE e
   .rename_i q;first|exact absurd rfl q|exact(q trivial).elim
  .rw[aP q]at e;exact I.sl j Y e
theorem zh(R:Rel Z locs W st.r st.g h)(M:W.O a=some (bV i x)):Rel Z locs (W.tag a none) (st.put i none).r (st.put i none).g h:=by
 have u:∀{t:cL},(∀j,t≠.mu j)->(∀j,t≠.le j)->t≠bV i x:=λ{t} E y q=>(dY i x).elim (λh=>E i<|q.trans h) λh=>y i<|q.trans h
 have l:=R.mS (i:=i);have c:∀{b:Addr}{t:cL},W.O b=some t->t≠bV i x->(W.tag a none).O b=some t:=λ{b t} e q=>(Gh.ag _ _ λz=>q<|sJ<|e.symm.trans<|(congrArg W.O z).trans M).trans e
 have L:W.Le (W.tag a none):=.tag λo e=>absurd (sJ<|e.symm.trans M)<|u nofun nofun
 refine⟨λb t e=>?_,λb o e=>?_,λb o e=>c (l.base b o e)<|u nofun nofun,⟨l.gl.len,λm N e=>eV (l.gl.at_ m N e) λb J I H=>⟨b,J,c I<|u nofun nofun,H.at_ L λ_ e=>e⟩⟩,l.len,λj p e=>(l.lo j p e).re λz E y=>c z<|u E y,l.ap,λj w e=>?_⟩
 .by_cases q:b=a
  .subst q;exact nE<|(Gh.aG ..).symm.trans e
  .exact l.sz b t<|(Gh.ag _ _ q).symm.trans e
 .by_cases q:b=a
  .subst q;exact nE<|(Gh.aG ..).symm.trans e
  .exact l.fz b o<|(Gh.ag _ _ q).symm.trans e
 .have F:i≠j:=λq=>by subst q;exact nE (sJ<|(T0<|aU▸(ty.mp e).1).symm.trans e)
  exact ju (l.sl j w e) λp v J I H=>⟨p,v,J,I,H.at_ L λb o z O=>⟨c z λz=>F<|CB z,O⟩⟩
end
section
variable{Z:Cx} {locs:List (Option Loc)} {W:Gh} {s:Shared} {g:List GO} {st:St} {k:Nat} {S:iy} {C:Addr} {N:Addr->Prop}
theorem xI(a):∀(st),(clear a st).g=st.g:=by
 induction a with
 |nil=>exact λ_=>rfl
 |cons i a b=>exact λst=>b<|st.put i none
theorem FQ(a):∀(st),(clear a st).r.length=st.r.length:=by
 induction a with
 |nil=>exact λ_=>rfl
 |cons i a b=>exact λst=>(b<|st.put i none).trans (aU ..)
theorem m9(a):∀(st)(j),(clear a st).r[j]?=if j∈a then(st.r[j]?).map λ_=>none else st.r[j]?:=by
 induction a with
 |nil=>exact λ_ _=>(if_neg<|eA).symm
 |cons i a d=>
  intro st j;show(clear a (st.put i none)).r[j]?=_;rw[d];simp only[St.put,GB,rc];by_cases q:i=j
  .subst q;by_cases b:i<st.r.length
   .simp[b]
   .have:st.r[i]?=none:=by simpa using b
    simp[this,b]
  .have c:¬j=i:=λe=>q e.symm;simp[q,c]
theorem Rel.clear (R:Rel Z locs W st.r st.g h) (q):Rel Z locs W (clear q st).r (Internal.clear q st).g h:=by
 induction q generalizing st with
 |nil=>exact R
 |cons i q u=>exact u (st:=st.put i none) R.mS
theorem eM.clear (x:eM Z locs s W q z D) (u):eM Z locs s W (Internal.clear u q) z D:=⟨x.same,x.ext,x.keep,x.rel.clear u⟩
inductive rW(Z:Cx)(locs:List (Option Loc))(b e:List Nat)(s:Shared)(W:Gh)(c:List PV×St):Gh->List PV×St->Prop
 |no:rW Z locs b e s W c W c
 |yes {i:Nat} {a:Addr} {t:Option Nat} {l:List PV} {d:Loc} (m:b.contains i=false) (j:W.O a=some (bV i<|.ml t l)) (M:ey Z W s.heap a (.ml t l)) (h:locs[i]?=some (some d)) (f:bP s.heap d (.ref a)):rW Z locs b e s W c (W.tag a none) (c.1,Internal.clear e (c.2.put i<|some<|.ml t l))
theorem rW.rel (L:rW Z locs u H s W E D F) (R:Rel Z locs W st.r st.g s.heap):∃q:St,Rel Z locs D q.r q.g s.heap:=by
 induction L with
 |no=>exact⟨_,R⟩
 |yes _ z=>exact⟨_,zh R z⟩
theorem rW.off (L:rW Z locs q F s W D z E) (h:W.O x=none):z.O x=none:=by
 induction L with
 |no=>exact h
 |yes _ u=>exact(Gh.ag _ _ λe=>nE<|(e▸h).symm.trans u).trans h
inductive CS(Z:Cx)(locs:List (Option Loc))(N:Addr->Prop)(f j:List Nat)(c:PV->List PV×St->Option (Option Unit×(List PV×St)))(s:Shared)(W:Gh)(y m:List PV×St)(e:Option Unit)(h:Value)(a:Shared):Prop
 |mk (b:Addr) (d:Src) (i l:List PV×St) (n W2:Gh) (x:h=.ref b) (w:s.heap.get? b=none) (v:W2.O b=none) (u:sH Z N W2 a.heap b d) (t:fB (λz:List PV×St=>z.2.g) c d i=some (e,l)) (r:i.1=y.1) (o:∃Gi,i.2=Internal.clear j Gi) (q:eM Z locs s n i.2 a W2) (p:rW Z locs f j s W l n m):CS Z locs N f j c s W y m e h a
theorem zT(H:jV Z f n)(hb:fq A n)(he:ay S env locs)(hc:aw Z.T k S pit it=true)(R:Rel Z locs W y.2.r y.2.g s.heap) (hy:∃Gi,y.2=Internal.clear m Gi) (U:∀a,N a->W.O a=none/\∃o,s.heap.get? a=some o)(e:eY f own (λz:List PV×St=>z.2) (λst z=>(z.1,Internal.clear m st)) it u y=some (zz16,X)):wpAny (model Z.prog Z.w) A (eval pit env) (λx D=>wpAny (model Z.prog Z.w) A (pyIter x) (CS Z locs N own m u s W y X zz16) No D) No s:=by
 cases ub e with
 | @Sn i t l o V q h ho P=>
  subst q;refine nF (k8 hc) λx px c hx=>?_;subst c;refine nZ hx he R h λloc v l1 l2 l3 l4=>?_;refine eV l4 λa c Q M=>?_;subst c;have R3:=(zh R Q).clear m;have hna:(W.tag a none).O a=none:=Gh.aG ..;have M2:ey Z (W.tag a none) s.heap a (.ml t l):=M.at_ (.tag λo e=>by replace e:=Q▸e;rcases dY i (.ml t l)with q|q<;>(replace e:=q▸e;cases e)) λ_ e=>e
  refine o0 (mQ (N:=N) (rv:=.ml t l) R3 ⟨a,rfl,M2⟩ (λ_ a' q=>by cases q;exact hna) (λb q=>?_) (src:=.l l) rfl) (λL s2 q=>?_) λ_ _ z=>z
  .have O:b≠a:=by rintro rfl;exact nE ((U _ q).1.symm.trans Q)
   exact⟨by refine(Gh.ag _ _ O).trans ?_;exact(U _ q).1,λ_ z=>by cases z;exact O rfl⟩
  .obtain⟨b,h',J,I,d,F,E⟩:=q;subst J;subst I;exact⟨b,.l l,(y.1,Internal.clear m (y.2.put i none)),V,W.tag a none,W.tag a none,rfl,d,R3.bA d,E,P,rfl,⟨_,rfl⟩,eM.grow (tk:=s.toks) R3 F,.yes ho Q M l1 l2⟩
 | @val i p src o V q h hs P=>subst q;refine nF (k8 hc) λx px c hx=>?_;subst c;refine nZ hx he R h λloc v l1 l2 l3 l4=>?_;refine o0 (mQ (N:=N) (rv:=.v p) R l4 (λq=>ff q) (λb q=>⟨(U _ q).1,λz=>ff z⟩) hs) (λL s2 q=>?_) λ_ _ z=>z;obtain⟨b,h',J,I,d,F,E⟩:=q;subst J;subst I;exact⟨b,src,y,X,W,W,rfl,d,R.bA d,E,P,rfl,hy,eM.grow (tk:=s.toks) R F,.no⟩
 | @ex rv Y src o V h hs P=>
  refine EP.on (H.e hc he hb R h) λv s1 W1 j x2 x3=>?_;refine o0 (mQ (N:=N) j.rel x2.wD (λht a ea=>ky.yp x2 ht ea) (λa q=>?_) hs) (λL s2 q=>?_) λ_ _ z=>z
  .obtain⟨z1,o,z2⟩:=U a q;exact⟨j.ext.new a o z2 z1,λht z=>nE<|(x3 ht a z).symm.trans z2⟩
  .obtain⟨b,h',J,I,d,F,E⟩:=q;subst J;subst I;exact⟨b,src,(y.1,Internal.clear m Y),X,W,W1,rfl,j.lW d,j.rel.bA d,E,P,rfl,⟨_,rfl⟩,(j.trans<|eM.grow (tk:=s1.toks) j.rel F).clear m,.no⟩
def T3(Z:Cx)(k:Nat)(S:iy)(locs:List (Option Loc))(C:Addr):List NE->List (Tg×Ex×List Ex)->Prop
 |[],[]=>True
 |g::c,(t,b,d)::a=>rg S g.target t=true/\cJ (aw Z.T k S) g.ifs d=true/\aw Z.T k S g.iter b=true/\(∀i∈kH t,uz locs C i)/\T3 Z k S locs C c a
 |_,_=>False
theorem rJ.Q2 (R:Rel Z locs W r g s.heap) (F:∀i u,J.contains i=false->locs[i]?=some (some u)->u.at_≠C) (b:W.O D=none) (hDl:∃o,s.heap.get? D=some o) (hC:W.O C=some .fr) (c:rJ Z locs D C s Ws V s' W') (L:rW Z locs J [] s W V Ws y'):∃U,rJ Z locs D C s W y' s' U:=by
 induction L with
 |no=>exact⟨W',c⟩
 | @yes i a t l u ho E M O l2=>
  have H:a≠D:=by rintro rfl;replace E:=b▸E;exact nE E
  have I:a≠C:=by rintro rfl;replace E:=hC▸E;unfold bV at E;split at E<;>exact nomatch E
  have P:u.at_≠D:=by intro q;refine aO ((R.lo i u O).tag) λt0 Q _=>?_;replace Q:=b▸q▸Q;exact nE Q
  obtain⟨q1,q2,q3,q4⟩:=vz (X:=λx=>x=D\/x=C) (st':=V.2) R (rv:=.ml t l) rfl E M O l2 .rfl c.ext (λx o e Y t=>c.keep x o e (λz=>Y<|.inl z) (λz=>Y<|.inr z) t) c.rel (by rintro(z|z);exact H z;exact I z) (by rintro(z|z);exact P z;exact(F i u ho O) z)
  refine ju c.acc λxs m a1 a2 a3=>?_;exact⟨_,c.same,q1,λx o e n1 n2 t=>q3 x o e (by rintro(z|z);exact n1 z;exact n2 z) t,q2,⟨xs,m,a1,a2,a3.mono (.tag λo e=>by replace e:=q4▸e;exact nE e)⟩,(Gh.ag _ _<|oM H).trans c.un,by refine(Gh.ag _ _<|oM I).trans ?_;exact c.fr⟩
theorem rW.inner (L:rW Z locs P cl s W U H V) (E:W.O D=none) (F:W.O C=some .fr) (J:AccAt Z W s.heap D l):H.O D=none/\H.O C=some .fr/\AccAt Z H s.heap D l:=by
 induction L with
 |no=>exact⟨E,F,J⟩
 | @yes i a t l Q b u M Y X=>
  have I:∀{x:cL},some x=some (bV i<|.ml t l)->x=.mu i\/x=.le i:=λe=>bn e▸(dY i<|.ml t l)
  exact⟨(Gh.ag _ _ λq=>nE (E.symm.trans (q▸u))).trans E,(Gh.ag _ _ (λq=>(I (F.symm.trans (q▸u))).elim (λz=>nomatch z) λz=>nomatch z:C≠a)).trans F,J.elim λO q=>q.elim λm q=>⟨O,m,q.1,q.2.1,q.2.2.mono (.tag λo e=>(I (e.symm.trans u)).elim (λz=>nomatch z) λz=>nomatch z)⟩⟩
theorem Fj(H:jV Z f n)(zz17:fq A n)(Y:ay S u locs){d}(i:aw Z.T k S h w=true)(X:l[d]?=none):Ae Z locs A f Q w [] h l r P d u D C:=by
 intro y y' o s W R ha hD hC e;delta pT;simp only[X];refine iE e λj e=>mE e λz p q=>?_;obtain⟨rfl,rfl⟩:=pJ q;refine EP.C9 (H.e (st':=z.2) i Y zz17 R p) λv c W1 M V=>?_;have a:=M.Zw ha hD hC;refine ju a.acc λF m E a2 L=>?_;have hI:IsL c.heap D F m:=E;have hl:=cK a2;refine ja slot_list_append (⟨_,E,rfl⟩:c.TypeIs (.ref D) "list") entry_list_append ?_<|args_list_append _ _
 show wpAny _ _ (updateSeq D (·.push v)>>=λ_=>ret .none) _ _ c
 have I:cR D c.heap (c.heap.update D<|dX (·.push v)):=g4 ..
 exact dL (yg E rfl (wpAny_pure ⟨.none,rfl,W1,a.same.elim λ_ z=>z.elim λO p=>⟨_,O,by rw[p]⟩,a.ext,λx o e J U t=>SameBut.keep I J (a.keep x o e J U t),a.rel.tagged λb t o p e2=>SameBut.keep I (λq=>nE (a.un.symm.trans (q▸p))) e2,⟨_,_,hI.update (·.push v),by rw[Array.size_push];exact((show y.1.length=F.size from L.length)▸j),by rw[Ge];exact L.append (.one V)⟩,a.un,a.fr⟩))
theorem BF(H:jV Z f n)(U:fq A n)(Q:ay S w locs)(j:c.all (λg=>g.is_async==0&&eS g.iter)=true) (v:∀i u,h.contains i=false->locs[i]?=some (some u)->u.at_≠C) {g d} (I:c[d]?=some g) (v1:rg S g.target t=true) (v2:cJ (aw Z.T k S) g.ifs cs=true) (v3:aw Z.T k S g.iter P=true) (v4:∀i∈kH t,uz locs C i) (ih:Ae Z locs A f h E zz18 p c l F (d+1) w D C):Ae Z locs A f h E ((t,P,cs)::zz18) p c l F d w D C:=by
 intro y y' o s W R V J X e;have e':eY f h (λz:List PV×St=>z.2) (λst z=>(z.1,Internal.clear [] st)) P (Ea f h E t cs zz18) y=some (o,y'):=e;have m:∃o,s.heap.get? D=some o:=V.elim λ_ z=>z.elim λ_ z=>⟨_,z.1⟩;delta pT;simp only[I];refine o0 (zT (N:=λa=>a=D) H U Q v3 R ⟨y.2,rfl⟩ (λa z=>z▸⟨J,m⟩) e') (λx s1 hx=>o0 hx (λitv s2 q=>?_) λ_ _ z=>z) λ_ _ z=>z;obtain⟨b,src,y2,y3,Ws,W2,q1,O,q3,M,q5,q6,_,q7,L⟩:=q;subst q1;refine Ao (L.inner J X V) λh1 Y h3=>?_;refine mz I j M<|bw (vR H U Q I j v1 v4 v2 ih O (λz=>m.elim λ_ q=>nE<|O.symm.trans<|z▸q) Y _ rfl (q7.Zw (q6▸h3) h1 Y) q3 M q5) λr s' z=>?_
 obtain⟨fl,z1,W',z2⟩:=z;exact⟨fl,z1,rJ.Q2 R v J m X z2 L⟩
theorem vC(H:jV Z f n)(v:fq A n)(u:ay S w locs)(h:a.all (λg=>g.is_async==0&&eS g.iter)=true)(e:aw Z.T k S l x=true) (c:∀i m,r.contains i=false->locs[i]?=some (some m)->m.at_≠C):∀(o)(d),T3 Z k S locs C (a.drop d) o->Ae Z locs A f r x o l a p J d w D C
 |[],d,b=>by
  refine Fj H v u e<|mM ?_
  induction q:a.drop d with
  |nil=>exact fy.mp q
  |cons g y=>rw[q]at b;exact b.elim
 |(t,M,O)::o,d,b=>by
  cases q:a.drop d with
  |nil=>rw[q]at b;exact b.elim
  |cons g y=>
   replace b:=q▸b;refine YA b λv1 I F E z=>?_;have L:a[d]?=some g:=by have:=gw (xs:=a) (i:=d) (j:=0);rw[q]at this;exact this.symm
   exact BF H v u h c L v1 I F E<|vC H v u h e c o (d+1)<|(ve▸q▸rfl:a.drop (d+1)=y)▸z
end
theorem tQ{a:Type}{v}{l:List (Str×a)}(h:x≠y):((y,v)::l).lookup x=l.lookup x:=by rw[Kx,beq_eq_false_iff_ne.mpr h]
noncomputable def fG(C:Addr)(o:List (Str×Nat))(l:List (Option Loc)):List (Option Loc):=o.foldl (λl y=>l.set y.2<|some<|.d C y.1) l
theorem n9(C)(o):∀l:List (Option Loc),(fG C o l).length=l.length:=o.rec (λ_=>rfl) λ_ _ a _=>(a _).trans aU
theorem eG(C)(o):∀(l)(j),j∉o.map (·.2)->(fG C o l)[j]?=l[j]?:=o.rec (λ_ _ _=>rfl) λ_ _ a _ j h=>(a _ j λm=>h<|.tail _ m).trans<|aP λe=>h<|rc.mpr<|.inl e.symm
theorem qD(C)(o):∀(l)(x)(i),(o.map (·.2)).Nodup->(x,i)∈o->i<l.length->(fG C o l)[i]?=some (some<|.d C x):=o.rec (λ_ _ _ _ m=>nomatch m) λ_ r b _ x i c m a=>yY (Wp.mp c) λg f=>(rc.mp m).elim (λe=>by subst e;exact(eG C r _ _ g).trans<|T0 a) λm=>b _ x i f m<|aU.symm▸a
noncomputable def clS(b:Env)(c:List (Str×Addr))(y:Str×eh):List (Str×Addr):=if y.2=.free then(b.cells.lookup y.1).casesOn c λa=>(y.1,a)::c else c
def u4(b:Env)(a:List (Str×eh))(c:List (Str×Addr)):List (Str×Addr):=a.foldl (clS b) c
theorem OC(h:x≠y.1):(clS b c y).lookup x=c.lookup x:=by
 delta clS;split
 .induction b.cells.lookup y.1 with
  |none=>rfl
  |some a=>exact tQ h
 .rfl
theorem JN(b)(a):∀(c)(x),x∉a.map (·.1)->(u4 b a c).lookup x=c.lookup x:=a.rec (λ_ _ _=>rfl) λ_ _ d _ x h=>(d _ x λm=>h<|.tail _ m).trans<|OC λe=>h<|rc.mpr<|.inl e
theorem OD(c)(b):∀(j)(x)(a),(b.map (·.1)).Nodup->(x,fK)∈b->c.cells.lookup x=some a->(u4 c b j).lookup x=some a:=b.rec (λ_ _ _ _ m=>nomatch m) λ_ r f _ x a g m d=>yY (Wp.mp g) λi h=>(rc.mp m).elim (λe=>by subst e;exact(JN c r _ _ i).trans (by show iO x (if fK=.free then Kt (c.cells.lookup x) _ _ else _)=_;rw[if_pos rfl,d];exact di)) λm=>f _ x a h m d
theorem OB(c)(b):∀(d),(∀x,(x,fK)∈b->∃a,c.cells.lookup x=some a)->(forIn b d λ(p:Str×eh)(r:List (Str×Addr))=>if(p.2==fK)=true then(do let a<-cellOf c p.1;pure (bO<|(p.1,a)::r))else pure (bO r))=(pure (u4 c b d):Sem (List<|Str×Addr)):=
 b.rec (λ_ _=>rfl) λy r f d h=>by
  rw[lN];by_cases q:y.2=.free
  .refine fN (h y.1<|q▸.head _) λa e=>?_
   rw[if_pos<|beq_iff_eq.mpr q,show cellOf c y.1=pure a by delta cellOf;rw[e]]
   exact(f ((y.1,a)::d) λx m=>h x<|.tail _ m).trans (by show _=pure (u4 c r (if y.2=.free then Kt (c.cells.lookup y.1) _ _ else _));rw[if_pos q,e])
  .rw[if_neg λe=>q<|beq_iff_eq.mp e]
   exact(f d λx m=>h x<|.tail _ m).trans (by show _=pure (u4 c r (if y.2=.free then _ else _));rw[if_neg q])
theorem BY(b)(c)(h:∀x,(x,fK)∈b.names->∃a,c.cells.lookup x=some a):closureFor b c=pure (u4 c b.names []):=by have:=OB c b.names [] h;exact(congrArg (λm=>m>>=λd=>(pure d:Sem (List<|Str×Addr))) this)
theorem Sk(f:Str->eh->eh)(x)(l:List (Str×eh)):(l.map λy=>(y.1,f y.1 y.2)).lookup x=(l.lookup x).map (f x):=l.rec rfl λy r a=>by
  induction y with|mk n k=>
  by_cases h:x=n
  .subst h;exact di.trans<|congrArg (jo<|f x) di.symm
  .exact(tQ h).trans<|a.trans<|congrArg (jo<|f x) (tQ h).symm
theorem th(b:Env)(a:List (Str×eh))(x):(a.map λ(n,k)=>if(k==.free&&b.scope.kind==.function&&b.kindOf n==some .cell)then(n,Gz)else(n,k)).lookup x=(a.lookup x).map λk=>if(k==.free&&b.scope.kind==.function&&b.kindOf x==some .cell)=true then .cell else k:=(congrArg (λf=>(a.map f).lookup x) (funext λy=>by induction y;dsimp only;split<;>rfl)).trans (Sk (λn k=>if(k==.free&&b.scope.kind==.function&&b.kindOf n==some .cell)=true then .cell else k) x a)
section
variable{Z:Cx} {locs:List (Option Loc)} {k:Nat} {S:iy} {C:Addr} {scope:ng}
theorem Fu(h:(xq S a).lookup x=some i):(x,fK)∈a/\S.nm.lookup x=some i:=aO (List.mem_filterMap.mp<|fO h) λp m e=>iE e λq e=>mE e λj f d=>yY (pJ d) λc b=>by induction p;subst c;subst b;subst q;exact⟨m,f⟩
theorem gi{a:Type}{l:List (Str×a)}{v}(h:l.lookup x=some v):(x,v)∈l:=fO h
theorem mem_lookup{b:Type}{x v}{l:List (Str×b)}:(l.map (·.1)).Nodup->(x,v)∈l->l.lookup x=some v:=l.rec (λ_ m=>nomatch m) λy r c d m=>yY (Wp.mp d) λg f=>(rc.mp m).elim (λe=>e▸di) λa=>by induction y;exact(tQ λe=>g<|to.mpr ⟨(x,v),a,e⟩).trans<|c f a
structure iM(Z:Cx)(k:Nat)(S S':iy)(scope:ng)(own:List (Str×Nat)):Prop where
 VG:S'=⟨scope.names,own++xq S scope.names,S.ns⟩
 kind:scope.kind=.function
 nd:(scope.names.map (·.1)).Nodup
 HZ:∀y∈scope.names,y.2≠.cell
 RB:∀y∈own,scope.names.lookup y.1=some .local/\y.2<S.ns/\∀z∈S.nm,z.2≠y.2
 ZL:(own.map (·.1)).Nodup
 RA:(own.map (·.2)).Nodup
 ne:own≠[]
 fre:∀y∈scope.names,y.2=.free->(∃i,S.nm.lookup y.1=some i)/\(S.sc.lookup y.1=some .cell\/S.sc.lookup y.1=some .free)
variable{S':iy}
theorem iM.cells (c:iM Z k S S' scope I) (E:ay S u locs) (h:(x,fK)∈scope.names):∃a i,u.cells.lookup x=some a/\S.nm.lookup x=some i/\locs[i]?=some (some<|.c a):=by
 refine sA λC H=>?_;obtain⟨⟨i,F⟩,M⟩:=c.fre _ h rfl;refine aO (E.loc x i F) λq J D=>?_;refine H ?_;induction q with
 |d L y=>rcases(E.cel x M)with z|z<;>(replace z:=D.1▸z;cases z)
 |c a=>exact⟨a,i,D.2,F,J⟩
theorem iM.XA (c:iM Z k S S' scope D) (F:ay S z locs):ay S' (compEnvC scope (u4 z scope.names []) C z) (fG C D locs):=by
 have H:∀x,(compEnvC scope (u4 z scope.names []) C z).kindOf x=(scope.names.lookup x).map λk=>if(k==.free&&z.scope.kind==.function&&z.kindOf x==some .cell)=true then .cell else k:=λx=>th z scope.names x
 have U:=F.kind;refine⟨c.kind,F.glb,F.blt,λx i u=>?_,λx u _=>?_,λx u=>?_,λx u=>?_,by rw[n9,c.VG];exact F.len⟩
 .replace u:=c.VG▸u;simp only[qb]at u;induction e:D.lookup x with
  |some j=>
   rw[e]at u;simp at u;subst u;have J:=gi e;refine Ao (c.RB _ J) λI L _=>?_;refine⟨.d C x,qD C D locs x j c.RA J<|bh L F.len,?_,rfl,rfl⟩
   rw[H,I];rfl
  |none=>
   rw[e]at u;obtain⟨I,L⟩:=Fu u;refine ju (c.cells F I) λa V O M N=>?_;replace M:=L▸M;obtain rfl:=sJ M;have Q:i∉D.map (·.2):=λJ=>by exact aO (to.mp J) λy P e=>(c.RB y P).2.2 _ (gi L) e.symm
   refine⟨.c a,by refine(eG C D locs i Q).trans ?_;exact N,?_,OD z scope.names [] x a c.nd I O⟩
   rw[H,mem_lookup c.nd I];simp only[iN];split
   .exact .inl rfl
   .exact .inr rfl
 .rw[H];rw[c.VG]at u;have E:=u;exact congrArg _ E
 .rw[H];rw[c.VG]at u;have E:=u;induction e:scope.names.lookup x with
  |none=>simp
  |some k=>
   simp only[iN];split
   .trivial
   .simpa using(by rintro rfl;exact E e)
 .rw[H];rw[c.VG]at u;rcases u with q|q
  .exact absurd rfl<|c.HZ _<|gi q
  .rw[q];simp only[iN];split
   .exact .inl rfl
   .exact .inr rfl
theorem JQ{c}:∀{b},c.length=b.length->(∀p∈c.zip b,rg S' p.1.target p.2.1=true/\cJ (aw Z.T k S') p.1.ifs p.2.2.2=true)->(∀p∈c.zip b,aw Z.T k S' p.1.iter p.2.2.1=true)->(∀i∈b.flatMap (λg=>kH g.1),uz locs C i)->T3 Z k S' locs C c b:=by
 induction c with
 |nil=>exact λ{b} d _ _ _=>by cases b with
  |nil=>trivial
  |cons=>exact nomatch d
 |cons g c m=>
  intro b d l j h;induction b with
  |nil=>exact nomatch d
  |cons y b=>
   have a:=l (g,y)<|.head _
   exact⟨a.1,a.2,j (g,y)<|.head _,λi f=>h i<|aW.mpr ⟨y,.head _,f⟩,m (fg d) (λp e=>l p<|.tail _ e) (λp e=>j p<|.tail _ e) λi f=>h i<|(aW.mp f).elim λz q=>aW.mpr ⟨z,.tail _ q.1,q.2⟩⟩
theorem Ext.LM (x:Ext h W H) (J:h.get? C=none) (M:W.O C=none) (L:H.O C=none) (I:∀o,t≠.fz o):Ext h (W.tag C<|some t) (H.tag C<|some t):=by
 have F:∀{b:Addr},b≠C->(W.tag C<|some t).O b=W.O b:=λq=>Gh.ag _ _ q
 have E:∀{b:Addr},b≠C->(H.tag C<|some t).O b=H.O b:=λq=>Gh.ag _ _ q
 have u:(W.tag C<|some t).O C=some t:=Gh.aG ..
 have z:(H.tag C<|some t).O C=some t:=Gh.aG ..
 refine⟨⟨λb o e=>?_,x.le.gl⟩,λb o q e=>?_,λb e=>?_,λb i e=>?_,λb i e=>?_,λb i e=>?_,λb i e=>?_,λb i e=>?_⟩
 .by_cases D:b=C
  .subst D;rw[u]at e;obtain rfl:=sJ e;exact(I o<|Yv _).elim
  .rw[E D];rw[F D]at e;exact x.le.fz b o e
 .have D:b≠C:=by rintro rfl;replace q:=J▸q;exact nE q
  rw[E D];rw[F D]at e;exact x.new b o q e
 all_goals by_cases D:b=C
 .subst D;rw[z];rw[u]at e;exact e
 .rw[E D];rw[F D]at e;exact x.fr b e
 .subst D;rw[z];rw[u]at e;exact e
 .rw[E D];rw[F D]at e;exact x.ce b i e
 .subst D;rw[z];rw[u]at e;exact e
 .rw[E D];rw[F D]at e;exact x.gl b i e
 .subst D;rw[u]at e;obtain rfl:=sJ e;exact⟨_,z,by intro j q;cases q⟩
 .rw[E D];rw[F D]at e;exact x.mu b i e
 .subst D;replace e:=u▸e;obtain rfl:=sJ e;exact .inl z
 .rw[E D];rw[F D]at e;exact x.ln b i e
 .subst D;rw[z]at e;exact u.trans e
 .rw[F D];rw[E D]at e;exact x.lw b i e
theorem Ext.Ve (x:Ext h (W.tag C t) F) (I:h.get? C=none) (J:W.O C=none):Ext h W (F.tag C none):=by
 have D:∀{b:Addr},b≠C->(W.tag C t).O b=W.O b:=λq=>Gh.ag _ _ q;have z:∀{b:Addr},b≠C->(F.tag C none).O b=F.O b:=λq=>Gh.ag _ _ q;have u:∀{b:Addr}{H:cL},W.O b=some H->b≠C:=λe q=>by subst q;replace e:=J▸e;exact nE e
 refine⟨⟨λb o e=>?_,x.le.gl⟩,λb o q e=>?_,λb e=>?_,λb i e=>?_,λb i e=>?_,λb i e=>?_,λb i e=>?_,λb i e=>?_⟩
 .exact(z<|u e).trans<|x.le.fz b o<|(D<|u e).trans e
 .have E:b≠C:=by rintro rfl;replace q:=I▸q;exact nE q
  exact(z E).trans<|x.new b o q<|(D E).trans e
 .exact(z<|u e).trans<|x.fr b<|(D<|u e).trans e
 .exact(z<|u e).trans<|x.ce b i<|(D<|u e).trans e
 .exact(z<|u e).trans<|x.gl b i<|(D<|u e).trans e
 .exact(z<|u e)▸x.mu b i (by refine(D<|u e).trans<|e)
 .exact(z<|u e)▸x.ln b i ((D<|u e).trans e)
 .have E:b≠C:=by rintro rfl;rw[Gh.aG]at e;exact nE e
  rw[z E]at e;have:=x.lw b i e;rwa [D E]at this
end
section
variable{Z:Cx} {locs:List (Option Loc)} {h:Heap} {g:List GO} {st:St} {k:Nat} {S S':iy} {C D:Addr} {own:List (Str×Nat)} {pelt:jp} {scope:ng}
inductive CompI(Z:Cx)(k:Nat)(S:iy)(scope:ng)(pelt:jp)(c:Ex):List NE->List (Tg×Ex×List Ex)->Prop
 |mk (S':iy) (own:List (Str×Nat)) (g:NE) (b:List NE) (x:Tg×Ex×List Ex) (a:List (Tg×Ex×List Ex)) (m:iM Z k S S' scope own) (j:own.map (·.2)=(x::a).flatMap (λg=>kH g.1)) (f:aw Z.T k S' pelt c=true) (i:(g::b).all (λg=>g.is_async==0&&eS g.iter)=true) (e:b.length=a.length) (d:∀p∈(g::b).zip (x::a),rg S' p.1.target p.2.1=true/\cJ (aw Z.T k S') p.1.ifs p.2.2.2=true) (l:aw Z.T k S g.iter x.2.1=true) (hits:∀p∈b.zip a,aw Z.T k S' p.1.iter p.2.2.1=true):CompI Z k S scope pelt c (g::b) (x::a)
theorem iM.of (H:QB S own scope=true) (F:QA S own scope=true):iM Z k S ⟨scope.names,own++xq S scope.names,S.ns⟩ scope own:=aE H λQ h=>aE h λP h=>aE h λO N=>aE F λM h=>aE h λL h=>aE h λJ I=>⟨rfl,dT Q,dT P,λy q=>dT (bv.mp O y q),λy q=>aE (bv.mp N y q) λa b=>aE b λb c=>⟨dT a,dT b,λz u=>dT (bv.mp c z u)⟩,dT M,dT L,dT J,λy q E=>(FM.mp (bv.mp I y q)).elim (λz=>absurd E (dT z)) λz=>aE z λa b=>⟨Pi.mp a,(FM.mp b).imp dT dT⟩⟩
theorem CompI.of (H:iM Z k S S' scope own):∀{q E},Qz (aw Z.T k) S S' own z E pelt q=true->CompI Z k S scope pelt z q E
 |g::I,x::F,h=>aE h λQ h=>aE h λP h=>aE h λO h=>aE h λN h=>aE h λM h=>aE h λL J=>.mk _ _ g I x F H (dT P) O M (fg<|dT Q) (λp u=>aE (bv.mp N p u) λa b=>⟨a,b⟩) L λp u=>bv.mp J p u
 |[],_,h=>aE h λ_ h=>aE h λ_ h=>aE h λ_ h=>aE h λ_ h=>aE h λ_ h=>ff h
 |_::_,[],h=>aE h λh _=>nomatch(dT h:_+1=0)
theorem iM.RF (z:JS (aw Z.T k) S u I pelt q scope=true):CompI Z k S scope pelt u q I:=aE z λH h=>aE h λF E=>.of (.of H F) E
theorem Loc.dJ {c b d} (h:Loc.d a b=.d c d):a=c/\b=d:=by cases h;exact⟨rfl,rfl⟩
theorem Rel.ownAt (R:Rel Z locs W r g h) (hC:W.O C=some .fr) (hn:∃m,h.Ns C m) (U:(own.map (·.1)).Nodup) (h2:(own.map (·.2)).Nodup) (O:∀y∈own,y.2<locs.length) (a:∀i∈own.map (·.2),∀I,r[i]?≠some (some I))(Q:∀(i:Nat)(z:Loc),locs[i]?=some (some z)->z.at_≠C):Rel Z (fG C own locs) W r g h:=by
 have E:∀i∈own.map (·.2),∃x,(x,i)∈own/\(fG C own locs)[i]?=some (some<|.d C x):=λi u=>by obtain⟨⟨x,j⟩,N,rfl⟩:=to.mp u;exact⟨x,N,qD C own locs x j h2 N<|O _ N⟩
 refine⟨R.sz,R.fz,R.base,R.gl,by rw[n9];exact R.len,λi z e=>?_,λi j L x H J=>?_,λi I e=>?_⟩
 .by_cases u:i∈own.map (·.2)
  .exact aO (E i u) λx _ q=>sE (sJ<|q.symm.trans e) ⟨hC,hn⟩
  .exact R.lo i z<|(eG C own locs i u).symm.trans e
 .by_cases u:i∈own.map (·.2)
  .refine aO (E i u) λx1 Y X=>AH (Loc.dJ<|sJ<|sJ<|X.symm.trans H) λc1 d1=>?_
   by_cases F:j∈own.map (·.2)
   .exact aO (E j F) λV P M=>sJ<|(mem_lookup U Y).symm.trans<|(congrArg (λx=>own.lookup x)<|d1.trans (Loc.dJ<|sJ<|sJ<|M.symm.trans J).2.symm).trans<|mem_lookup U P
   .exact absurd c1.symm<|Q j _<|(eG C own locs j F).symm.trans J
  .replace H:=(eG C own locs i u).symm.trans H;by_cases F:j∈own.map (·.2)
   .exact aO (E j F) λV P M=>absurd (Loc.dJ<|sJ<|sJ<|M.symm.trans J).1.symm<|Q i _ H
   .exact R.ap i j L x H<|(eG C own locs j F).symm.trans J
 .by_cases u:i∈own.map (·.2)
  .exact absurd e<|a i u I
  .exact(eG C own locs i u)▸R.sl i I e
theorem rJ.outer {y:List PV×St} (M:own.map (·.2)=ol) (R:Rel Z locs Q r g s.heap) (N:s.heap.get? C=none) (hD:s.heap.get? D=none) (c:rJ Z (fG C own locs) D C s (Q.tag C<|some .fr) U V I):eM Z locs s Q (Internal.clear ol U.2) V (I.tag C none):=by
 have ext:=Ext.Ve c.ext N<|R.bA N
 have H:∀{b:Addr}{o:Obj},s.heap.get? b=some o->b≠C:=λe q=>by subst q;replace e:=N▸e;exact nE e
 have L:∀{b:Addr}{o:Obj},s.heap.get? b=some o->b≠D:=λe q=>by subst q;replace e:=hD▸e;exact nE e
 have X:dN Q s.heap V.heap:=⟨λb o e z=>c.keep b o e (L e) (H e) (.inl ((Gh.ag _ _ (H e)).trans z)),λb o e z=>c.keep b o e (L e) (H e)<|.inr<|.inl<|(Gh.ag _ _<|H e).trans z,λb o i e z=>c.keep b o e (L e) (H e) (.inr (.inr ⟨i,(Gh.ag _ _ (H e)).trans z⟩))⟩
 have F:=c.rel;have u:∀{b:Addr}{t:cL},I.O b=some t->t≠.fr->(I.tag C none).O b=some t:=λe q=>(Gh.ag _ _ (by rintro rfl;replace e:=c.fr▸e;obtain rfl:=sJ e;exact q rfl)).trans e
 have W:I.Le (I.tag C none):=.tag λo e=>by replace e:=c.fr▸e;cases e
 refine⟨c.same,ext,X,⟨λb t e=>?_,λb o e=>?_,λb o e=>u (F.base b o e) (by intro q;cases q),⟨by rw[xI];exact F.gl.len,λm go e=>?_⟩,?_,λi E e=>(R.lo i E e).keep X ext,R.ap,λj a e=>?_⟩⟩
 .by_cases q:b=C
  .subst q;rw[Gh.aG]at e;exact nE e
  .rw[Gh.ag _ _ q]at e;exact F.sz b t e
 .by_cases q:b=C
  .subst q;rw[Gh.aG]at e;exact nE e
  .rw[Gh.ag _ _ q]at e;exact F.fz b o e
 .rw[xI]at e;exact eV (F.gl.at_ m go e) λb J P O=>⟨b,J,u P (by intro q;cases q),O.at_ W λ_ e=>e⟩
 .have:=F.len;rw[n9]at this;rw[FQ];exact this
 .rw[m9]at e;split at e
  .induction q:U.2.r[j]?<;>rw[q]at e<;>exact nomatch e
  .rename_i Y;rw[<-M]at Y;refine ju (F.sl j a e) λE v J P O=>?_;rw[eG C own locs j Y]at J;exact⟨E,v,J,P,O.at_ W λb o z e=>⟨u z (by delta bV;split<;>(intro q;cases q)),e⟩⟩
theorem FK{a:List Nat}{i:Nat}(h:i∉a)(x:Option RV):∀st:St,clear a (st.put i x)=(clear a st).put i x:=by
 induction a with
 |nil=>intro st;rfl
 |cons j a b=>
  intro st;simp only[rc,not_or]at h;show clear a ((st.put i x).put j none)=(clear a (st.put j none)).put i x;have:(st.put i x).put j none=(st.put j none).put i x:=congrArg (St.mk · st.g)<|QO _ _ h.1
  rw[this,b h.2]
theorem zU(c)(st):clear c (clear c st)=clear c st:=by
 have f:(clear c (clear c st)).g=(clear c st).g:=by rw[xI]
 have d:(clear c (clear c st)).r=(clear c st).r:=by
  apply List.ext_getElem?;intro j;rw[m9 c<|clear c st]
  split
  .rename_i e;rw[m9 c st,if_pos e];induction st.r[j]?<;>rfl
  .rfl
 revert f d;generalize clear c (clear c st)=a;generalize clear c st=b;induction a;induction b;rintro rfl rfl;rfl
structure uB(h h₁:Heap)(D C:Addr):Prop where
 dc:D≠C
 fD:h.get? D=none
 fC:h.get? C=none
 old:gI h h₁
 hD:h₁.get? D=some (jz #[] 0)
 ns:∃m,h₁.Ns C m
theorem uB.mk' {h u} (H:u.Ns (h.push<|jz #[] 0).objs.size m) (k:∀b o,b≠(h.push<|jz #[] 0).objs.size->(h.push<|jz #[] 0).get? b=some o->u.get? b=some o):uB h u h.objs.size (h.push<|jz #[] 0).objs.size:=
 have e:=vf ..;have E:=b0<|e▸Tm _
 have F:=e▸bF (Ix _)
 ⟨F,j7 h,E,⟨λb o q=>k b o (λz=>nE<|E.symm.trans<|z▸q)<|bf _ q⟩,k _ _ F<|On _ rfl,_,H⟩
theorem uB.nsO (X:uB h q D C):∃o,q.get? C=some o:=X.ns.elim λ_ z=>z.elim λo z=>z.elim λ_ z=>z.elim λ_ z=>⟨o,z.1⟩
theorem uB.its (X:uB h M D C) (w:W.O C=none) (x:sH Z (λ_=>False) W h b I):sH Z (λa=>a=D) (W.tag C<|some .fr) M b I:=by
 have J:W.Le (W.tag C<|some .fr):=.tag λo e=>nE<|w.symm.trans e
 have u:∀{a o},kz W h a o->kz (W.tag C<|some .fr) M a o/\a≠D:=λ{a o} z=>⟨⟨X.old.keep _ _ z.1,by rw[Gh.ag _ _ λq=>nE<|X.fC.symm.trans<|q▸z.1];exact z.2⟩,λq=>nE<|X.fD.symm.trans<|q▸z.1⟩
 induction x with
 |lst F E H N L=>exact F.elim λo q=>.lst ⟨o,X.old.keep _ _ q.1,q.2⟩ (u E).1 H (u E).2<|L.mono J
 |tup F E H N L=>exact F.elim λo q=>.tup ⟨o,X.old.keep _ _ q.1,q.2⟩ (u E).1 H (u E).2<|L.mono J
 |iH F=>exact .iH<|X.old.keep _ _ F
 |aZ F E H=>exact F.elim λo q=>.aZ ⟨o,X.old.keep _ _ q.1,q.2⟩ (J.gl _ _ E) H
theorem uB.VL (X:uB h J D C) (R:Rel Z locs W (Internal.clear (own.map (·.2)) st).r (Internal.clear (own.map (·.2)) st).g h) (F:iM Z k S S' scope own) (E:∀y∈own,y.2<locs.length):Rel Z (fG C own locs) (W.tag C<|some .fr) (Internal.clear (own.map (·.2)) st).r (Internal.clear (own.map (·.2)) st).g J:=by
 have wC:=R.bA X.fC;refine Rel.ownAt (own:=own) ((R.grow X.old).AR (t:=.fr) wC X.nsO (λ_ q=>nomatch q)) (Gh.aG ..) X.ns F.ZL F.RA E (λi I M q=>?_) λi u e q=>?_
 .rw[m9,if_pos I]at q;induction H:st.r[i]?<;>rw[H]at q<;>exact nomatch q
 .exact(R.lo i u e).tag.elim λL z=>nE<|(q▸wC).symm.trans z.1
theorem uB.start (X:uB E.heap u D C) (x:eM Z locs s F y.2 E H) (wC:F.O C=none) (J:y.1=[]) (R:Rel Z (fG C own locs) (H.tag C<|some .fr) y.2.r y.2.g u):rJ Z (fG C own locs) D C s (F.tag C<|some .fr) y {E with heap:=u,toks:=tk} (H.tag C<|some .fr):=by
 refine⟨x.same.elim λ_ z=>z.elim λ_ z=>⟨u,tk,by rw[z]⟩,x.ext.LM (x.lW X.fC) wC (x.rel.bA X.fC) (λ_ q=>nomatch q),λz o e L I t=>X.old.keep z o ?_,R,⟨#[],0,X.hD,Rs _,J▸trivial⟩,(Gh.ag _ _ X.dc).trans<|x.rel.bA X.fD,Gh.aG ..⟩
 rw[Gh.ag _ _ I]at t;rcases t with t|t|⟨i,t⟩
 .exact x.keep.free z o e t
 .exact x.keep.fr z o e t
 .exact x.keep.ce z o i e t
theorem UD.of {y2:List PV×St} (U:own.map (·.2)=O) (R:Rel Z locs W st.r st.g s.heap) (I:s.heap.get? D=none) (J:s.heap.get? C=none) (V:D≠C) (L:rW Z locs O O s W H Ws y')(z:rJ Z (fG C own locs) D C s (Ws.tag C<|some .fr) H s' b) (ns:∃m,s'.heap.Ns C m):UD Z locs s W (Internal.clear O y'.2) (.ml none y'.1) (.ref D) s' C:=by
 refine fN (L.rel R) λst1 RWs=>?_;have u:=rJ.outer (y:=y2) U RWs J I z;have E:b.Le (b.tag C none):=.tag λo e=>nomatch z.fr.symm.trans e;have un:(b.tag C none).O D=none:=(Gh.ag _ _ V).trans z.un;have F:=z.acc;induction L with
 |no=>exact F.elim λN q=>q.elim λm q=>⟨_,u,⟨rfl,D,rfl,un,N,m,q.1,q.2.1,q.2.2.mono E⟩,λ_ a q=>eK q▸I,Gh.aG ..,J,(λq=>V<|eK q),ns⟩
 | @yes i a P l loc ho Q M l1 l2=>
  refine YB (vz (X:=λ_=>False) (st':=Internal.clear O H.2) R (rv:=.ml P l) rfl Q M l1 l2 .rfl u.ext (λx o e _ t=>by
   rcases t with t|t|⟨j,t⟩
   .exact u.keep.free x o e t
   .exact u.keep.fr x o e t
   .exact u.keep.ce x o j e t) u.rel (λz=>z) (λz=>z)) λb1 b2 Y b4=>?_
  refine(by rw[zU,FK (by simpa using ho)]:Internal.clear O (Internal.clear O (H.2.put i<|some<|.ml P l))=(Internal.clear O H.2).put i (some<|.ml P l))▸?_
  exact F.elim λN q=>q.elim λm q=>⟨_,⟨u.same,b1,⟨λx o e t=>Y x o e (λz=>z) (.inl t),λx o e t=>Y x o e (λz=>z) (.inr (.inl t)),λx o j e t=>Y x o e (λz=>z) (.inr (.inr ⟨j,t⟩))⟩,b2⟩,⟨rfl,D,rfl,(Gh.ag _ _ (λq=>nE ((R.bA I).symm.trans (q▸Q)))).trans un,N,m,q.1,q.2.1,(q.2.2.mono E).mono (.tag λo e=>nE (b4.symm.trans e))⟩,λ_ a q=>eK q▸I,(Gh.ag _ _ (λq=>nE ((R.bA J).symm.trans (q▸Q)))).trans (Gh.aG ..),J,(λq=>V (eK q)),ns⟩
theorem BW(H:jV Z f n)(he:ay S x locs) (hb:fq A n) (R:Rel Z locs W st.r st.g s.heap)(M:iM Z k S S' scope own) (hO:(Um (λg:Tg×Ex×List Ex=>kH g.1)<|(t,it,cs)::L)=O) (v:own.map (·.2)=O) (helt:aw Z.T k S' pelt elt=true) (l:(gc::gr).all (λg=>g.is_async==0&&eS g.iter)=true) (Y:gr.length=L.length) (E:∀p∈(gc::gr).zip ((t,it,cs)::L),rg S' p.1.target p.2.1=true/\cJ (aw Z.T k S') p.1.ifs p.2.2.2=true) (hits:∀p∈gr.zip L,aw Z.T k S' p.1.iter p.2.2.1=true) (q2:s.heap.get? b=none) (q3:W'.O b=none) (q4:sH Z (λ_=>False) W' s'.heap b src) (q5:fB (λz:List PV×St=>z.2.g) (Ea f O elt t cs L) src y2=some (o,y3)) (q6:y2.1=[]) (P:∃Gi,y2.2=Internal.clear O Gi) (F:eM Z locs s Ws y2.2 s' W') (q8:rW Z locs O O s W y3 Ws y') (X:uB s'.heap h' D C) (hQ:∀m,UD Z locs s W (Internal.clear O y'.2) (.ml none y'.1) (.ref D) m C->compPost (model Z.prog Z.w) A No J Q (.ref D) C (.ok .next) m):codeAny (model Z.prog Z.w) A (.compStart (.ListComp pelt (gc::gr) scope pos) 0 (.ref b) (.ref D)<|compEnvC scope (u4 x scope.names []) C x) (compPost (model Z.prog Z.w) A No J Q (.ref D) C) {s' with heap:=h',toks:=tk}:=by
 have V:∀y∈own,y.2<locs.length:=λy I=>bh (M.RB y I).2.1 he.len;have sC:=F.lW X.fC;have wC:=R.bA sC;have heC:ay S' (compEnvC scope (u4 x scope.names []) C x) (fG C own locs):=M.XA he;have at':∀y∈own,(fG C own locs)[y.2]?=some (some<|.d C y.1):=λy I=>qD C own locs y.1 y.2 M.RA I<|V _ I
 have j:∀i∈O,uz (fG C own locs) C i:=λi zz19=>by refine aO (to.mp<|v▸zz19) λy z1 z2=>?_;exact⟨y.1,z2▸at' y z1⟩
 have U:∀i u,O.contains i=false->(fG C own locs)[i]?=some (some u)->u.at_≠C:=λi u ho e q=>by
  rw[eG C own locs i (by rw[v];simpa using ho)]at e
  exact(R.lo i u e).tag.elim λt0 z=>nE<|(q▸wC).symm.trans z.1
 have R5:Rel Z (fG C own locs) (W'.tag C<|some .fr) y2.2.r y2.2.g h':=by refine fN P λGi z=>?_;have R2:=F.rel;rw[z,<-v]at R2⊢;exact X.VL R2 M V
 have hb':b≠C/\b≠D:=q4.kind.elim λob z=>z.elim λ_ z=>⟨λq=>nE<|X.fC.symm.trans<|q▸z.1,λq=>nE<|X.fD.symm.trans<|q▸z.1⟩
 have N:=E (gc,(t,it,cs))<|.head _
 refine mz (g:=gc) rfl l (X.its (F.rel.bA X.fC) q4) ?_;refine bw (vR (d:=0) H hb heC rfl l N.1 (λi zz19=>j i (hO▸ny _ zz19)) N.2 (λa b' c d' e'=>vC H hb heC l helt U L 1 (JQ Y (λp hp=>E p (.tail _ hp)) hits λi zz19=>j i (hO▸br _ zz19)) a b' c d' e') q2 hb'.2 (Gh.aG ..) _ rfl (X.start (tk:=tk) F (q8.off wC) q6 R5) ((Gh.ag _ _ hb'.1).trans q3) (X.its (F.rel.bA X.fC) q4) q5) λr m z=>?_;obtain⟨fl,rfl,W3,z2⟩:=z;obtain⟨y0,I⟩:=List.exists_mem_of_ne_nil own M.ne;have:=hQ m<|.of (y2:=y2) v R (F.lW X.fD) sC X.dc q8 z2 (z2.rel.lo _ _<|at' y0 I).2
 induction J<;>exact this
theorem D5(H:jV Z f n)(V:aw Z.T k S (.ListComp pelt c scope F) (.comp u gs)=true)(he:ay S d locs)(zz20:fq A n)(R:Rel Z locs W st.r st.g s.heap) (e:mv f u gs st=some (rv,E)) (hQ:∀Y C s',UD Z locs s W E rv Y s' C->compPost (model Z.prog Z.w) A No use Q Y C (.ok .next) s'):wpAny (model Z.prog Z.w) A (comprehension (.ListComp pelt c scope F) scope d (firstIterPos c F) (newList []) (firstAsync c) (firstIter c d) use) Q No s:=by
 match k,V with
 |k+1,V=>
 have V:JS (aw Z.T k) S u gs pelt c scope=true:=V;obtain⟨S',own,m,gr,⟨t,it,cs⟩,sr,v,M,U,p,P,J,BK,hits⟩:=iM.RF V;generalize hO:(Um (λg:Tg×Ex×List Ex=>kH g.1)<|(t,it,cs)::sr)=O at M
 have e0:(eY f O (λz:List PV×St=>z.2) (λst z=>(z.1,Internal.clear O st)) it (Ea f O u t cs sr) ([],Internal.clear O st)).map (λy=>(RV.ml none y.2.1,Internal.clear O y.2.2))=some (rv,E):=hO▸e;refine mE e0 λy' e1 q0=>?_;obtain⟨rfl,rfl⟩:=pJ q0;have X:=sB.mp<|bv.mp p m<|.head _
 have l:firstAsync (m::gr)=false:=by rw[(by cases m;rfl:firstAsync (m::gr)=(m.is_async !=0)),bne,X.1];rfl
 refine l▸?_;refine wpAny_comprehension_free (g:=m) (gs:=gr) rfl (jS X.2) (BY scope d λx L=>nF (v.cells he L) λa _ h _=>⟨a,h⟩) v.kind (λx L hk=>mem_lookup v.nd (by refine hk▸?_;exact L)) ?_
 rw[show firstIter (m::gr) d=eval m.iter d from by cases m;rfl]
 refine o0 (zT (N:=λ_=>False) (y:=([],Internal.clear O st)) H zz20 he BK (R.clear O) ⟨st,rfl⟩ (λ_ z=>z.elim) e1) (λx s1 L=>o0 L (λitv s2 q=>?_) λ_ _ z=>z) λ_ _ z=>z;obtain⟨b,src,y2,y3,Ws,W2,q1,q2,q3,q4,q5,q6,q6',q7,q8⟩:=q;subst q1;refine uM (hd:=by size_fits) (wpAny_newFunctionEnv v.HZ (λ_ hy=>nomatch hy) (λI j i=>?_) v.kind)
 exact BW (s':=s2) (h':=I) H he zz20 (R.clear O) v hO M U p P J hits q2 q3 q4 q5 q6 q6' q7 q8 (.mk' j λb o zz20 e=>i.extBut b o zz20<|bf _ e) λs'' z=>hQ _ _ _ z
end
theorem nV{a:Type}{x}{N:List Str}:∀{V:List a}{i:Nat},N.Nodup->N[i]?=some x->(N.zip V).lookup x=V[i]?:=by
 induction N with
 |nil=>exact λ_ h=>nE h
 |cons n N b=>
  intro V i c h;cases V with
  |nil=>rfl
  |cons v V=>induction i with
   |zero=>exact sJ h▸di
   |succ i=>exact yY (Wp.mp c) λf d=>(tQ λe:x=n=>f<|e▸bZ (show N[i]?=some x from h)).trans<|b d h
noncomputable def ir(a:List (Str×Value))(p:Str×Value):List (Str×Value):=if(a.lookup p.1).isNone then a++[(p.1,p.2)]else a
theorem FV(x)(Z)(p):(ir Z p).lookup x=(Z.lookup x).or (iO x [p]):=by
 delta ir;split
 .exact qb
 .rename_i a;by_cases h:x=p.1
  .induction e:Z.lookup x with
   |none=>exact absurd (h▸e▸rfl) a
   |some v=>rfl
  .exact(Ks.symm.trans<|congrArg _ (show iO x [p]=none from tQ (v:=p.2) (l:=[]) h).symm)
theorem rU(x)(L:List (Str×Value)):∀Z:List (Str×Value),(L.foldl ir Z).lookup x=(Z.lookup x).or (L.lookup x):=L.rec (λ_=>Ks.symm) λp L a Z=>(a _).trans (by rw[FV,Option.or_assoc,<-qb];rfl)
theorem uX{R:List (Str×Value)}{N:List Str}:∀{F},N.length=F.length->(∀(i:Nat)(x)(v),N[i]?=some x->F[i]?=some v->R.lookup x=some v)->N.filterMap (λn=>(R.lookup n).map (n,·))=N.zip F:=by
 induction N with
 |nil=>exact λ_ _=>rfl
 |cons n N b=>
  intro F a h;induction F with
  |nil=>exact nomatch(a:N.length+1=0)
  |cons v F=>rw[Er,(h 0 n v rfl rfl)];exact congrArg _<|b (fg a) λi=>h<|i+1
theorem XC{a:Type}{l:List a}(h:l.length<=n):l.drop (l.length - n)=l:=(Ce h).symm▸rfl
theorem GF{Q:d->Shared->Prop}(h:c=false)(k:wpAny M A b Q E s):wpAny M A (if c=true then a else b) Q E s:=by subst h;exact k
theorem FX(L:List (Str×Value)):∀Z:List (Str×Value),(forIn L Z λ(p:Str×Value)(a:List (Str×Value))=>if(iO p.1 a).isNone=true then pure (bO<|a++[(p.1,p.2)])else pure (bO a))=(pure (L.foldl ir Z):Sem (List<|Str×Value)):=by
 induction L with
 |nil=>exact λ_=>rfl
 |cons p L b=>
  intro Z;rw[lN,cO];have:(if(iO p.1 Z).isNone=true then pure (bO<|Z++[(p.1,p.2)])else pure (bO Z))=(pure (bO<|ir Z p):Sem _):=by delta ir;split<;>rfl
  rw[this,pure_bind];exact b _
theorem bind_none{N:List Str}{b d:List Value}(f:N.Nodup)(g:N.length<=b.length+d.length)(h:d.length<=N.length):(UQ (λn=>(iO n<|N.zip b).isNone)<|List.take (N.length - d.length) N)=[]:=by
 rw[List.filter_eq_nil_iff];intro x e;refine fN (dh.mp e) λi c=>?_;have a:=(ty.mp c).1;rw[cV]at a;have a:=bh a<|uP _ _
 rw[List.getElem?_take_of_lt a]at c;rw[nV f c,At<|bh a<|Cd.mpr g]
 exact xz
theorem OM{n:Nat}(f:v<=i)(e:n<=v+d)(c:d<=n):i -(n - d)=d+v - n+(i - v):=by
 obtain⟨m,rfl⟩:=iz c;obtain⟨j,rfl⟩:=iz f;have b:=jY (a:=d)<|wp v d▸e
 obtain⟨u,rfl⟩:=iz b;rw[Sc,<-wn,Sc,Sc,wn,Sc]
theorem OL{n:Nat}(h:n - d<=i):n - d+(i -(n - d))=i:=Nat.add_sub_of_le h
theorem OK{n:Nat}(b:v<=i)(a:n<=v+d):n - d<=i:=am (Cd.mpr a) b
theorem ON{n:Nat}(b:v<=n)(a:n<=v+d):n=v+(d -(d+v - n)):=by
 obtain⟨j,rfl⟩:=iz b;obtain⟨u,rfl⟩:=iz<|jY a
 rw[AT,wp j v,Sc,Nat.add_sub_cancel]
theorem J2{N:List Str}(f:N.Nodup)(j:a.length<=N.length)(d:N.length<=a.length+b.length)(h:b.length<=N.length):N.filterMap (λn=>((((KB (N.length - b.length) N).zip b).foldl ir<|N.zip a).lookup n).map (n,·))=N.zip (a++b.drop (b.length+a.length - N.length)):=by
 refine uX (by rw[ch,eB];exact ON j d) λi x v e c=>?_
 rw[rU,nV f e];rcases jw i a.length with hi|hi
 .rw[IR hi]at c;rw[c];rfl
 .rw[Fk hi,gw]at c;rw[mM hi,Option.none_or];have g:=(ty.mp e).1;have k:(KB (N.length - b.length) N)[i -(N.length - b.length)]?=some x:=by
   rw[gw,OL<|OK hi d];exact e
  rw[nV (f.sublist (List.drop_sublist ..)) k,<-c];exact congrArg (b[·]?)<|OM hi d h
theorem J1(t:e.params=⟨[],a,none,[],x,none,y⟩)(u:(∃T o c n,e.defaults=.ref T/\s.heap.get? T=some o/\o.data=.seq c n/\d=c.toList)\/(e.defaults=.none/\d=[]))(m:(a.map (·.arg)).Nodup) (i:b.length<=a.length) (h:a.length<=b.length+d.length) (g:d.length<=a.length):BindsTo s e ⟨b,[]⟩ ((a.map (·.arg)).zip<|b++d.drop (d.length+b.length - a.length)):=by
 intro M A E Q p;have f:∀{P:Option (Array Value)->Shared->Prop},(∀r:Option (Array Value),(r.getD #[]).toList=d->P r s)->wpAny M A (seqItems? e.defaults) P E s:=λ{P} k=>by
  rcases u with⟨T,o,c,n,l,j,w,v⟩|⟨l,j⟩
  .exact l▸wpAny_seqItems j w (k _ v.symm)
  .exact l▸wpAny_pure (k none j.symm)
 rw[show a.length=(a.map (·.arg)).length from(im _).symm]at i h g p
 induction e;subst t;refine dL<|wpAny_pure<|dL<|f λr q=>?_
 have vG:=XC (q.symm▸g:((r.getD #[]).toList).length<=_);refine GF (Bool.and_eq_false_iff.mpr (.inl (decide_eq_false (iF.mpr i)))) (GF (show(!(UQ (λn=>(iO n ((a.map (·.arg)).zip b)).isNone) (List.take ((a.map (·.arg)).length -((r.getD #[]).toList.drop ((r.getD #[]).toList.length -(a.map (·.arg)).length)).length) (a.map (·.arg)))).isEmpty)=false by rw[vG,bind_none m (q.symm▸h) (q.symm▸g)];rfl) (dL (K4 (FX _ _) (wpAny_pure ?_))))
 show Q (Pf (λn=>((((KB ((a.map (·.arg)).length -((r.getD #[]).toList.drop<|(r.getD #[]).toList.length -(a.map (·.arg)).length).length)<|a.map (·.arg)).zip<|(r.getD #[]).toList.drop<|(r.getD #[]).toList.length -(a.map (·.arg)).length).foldl ir<|(a.map (·.arg)).zip b).lookup n).map (n,·))<|(a.map (·.arg))++[]) _
 rw[vG,u8,q,J2 m i h g];exact p
theorem vV(x)(a):∀(n)(b),((x,Gz)∈a\/(b.lookup x).isSome=true)->((cellsFrom n a b).lookup x).isSome=true:=a.rec (λ_ _ h=>h.elim (λh=>nomatch h) id) λy r d n b h=>by
  induction y with|mk y k=>
  show((if(k==.cell)=true then cellsFrom (n+1) r ((y,n)::b)else cellsFrom n r b).lookup x).isSome=true
  split
  .refine d _ _ ?_;by_cases c:x=y
   .exact .inr (by rw[c,di];rfl)
   .exact h.imp (λh=>(rc.mp h).elim (λe=>absurd (pJ e).1 c) id) λh=>(tQ c).symm▸h
  .rename_i f;exact d _ _<|h.imp (λh=>(rc.mp h).elim (λe=>absurd ((pJ e).2▸rfl) f) id) id
theorem FY(a)(b):∀(m)(x),x∉b.map (·.1)->bindL a b m x=m x:=b.rec (λ_ _ _=>rfl) λy r c _ x h=>(c _ x λm=>h (.tail _ m)).trans (by
  split
  .exact if_neg λe=>h<|rc.mpr<|.inl e
  .rfl)
theorem J3(a)(b):∀(m)(x)(v),(b.map (·.1)).Nodup->(x,v)∈b->a x=some .local->bindL a b m x=some v:=b.rec (λ_ _ _ _ m=>nomatch m) λy r d _ x v f m c=>yY (Wp.mp f) λh g=>(rc.mp m).elim (λe=>by subst e;exact(FY a r _ _ h).trans<|(congrFun (if_pos c) x).trans<|if_pos rfl) λm=>d _ x v g m c
theorem FZ(a)(b):∀(m)(x),x∉b.map (·.1)->bindC a b m x=m x:=b.rec (λ_ _ _=>rfl) λy r c _ x h=>(c _ x λm=>h (.tail _ m)).trans (by
  split
  .rfl
  .exact if_neg λe=>h (rc.mpr (.inl e)))
theorem J4(a)(b):∀(m)(x)(v),(b.map (·.1)).Nodup->(x,v)∈b->a x≠some .local->bindC a b m x=some v:=b.rec (λ_ _ _ _ m=>nomatch m) λy r d _ x v f m c=>yY (Wp.mp f) λh g=>(rc.mp m).elim (λe=>by subst e;exact(FZ a r _ _ h).trans<|(congrFun (if_neg c) x).trans<|if_pos rfl) λm=>d _ x v g m c
noncomputable def placeOf(a:List (Str×eh))(L:Addr)(b:List (Str×Addr))(x:Str):Loc:=if a.lookup x=some .local then .d L x else .c ((b.lookup x).getD 0)
def placesOf(a:List (Str×eh))(L:Addr)(b:List (Str×Addr))(d:List (Str×Nat))(c:Nat):List (Option Loc):=(Db c).map λi=>(d.find? λy=>y.2==i).map λy=>placeOf a L b y.1
inductive Cb(f:Cx)(d:cx)(j:Addr):Prop
 |mk (o:Obj) (F:Lf) (e:List nR) (g:List (Str×Nat)) (b:List Arg) (m:List jp) (l:List (Option jp)) (h:List Value) (k:Nat) (f1:f.dD.get? j=some o) (f2:o.data=.func F) (f3:F.body=.stmts e) (f4:f.dD.CodeRec F.code F.qualname) (f5:F.closure=[]) (f6:F.globals=mainGlobals) (f7:F.builtins=builtinsNs) (f8:F.scope.kind=.function) (f9:F.scope.isCoroutine=false) (Y7:F.scope.isGenerator=false) (Y6:F.params=⟨[],b,none,[],l,none,m⟩) (Tl:b.length=d.np) (Y5:d.np<=d.ns) (Xu:(b.map (·.arg)).Nodup) (Y4:(∃D o c n,F.defaults=.ref D/\f.dD.get? D=some o/\o.data=.seq c n/\h=c.toList)\/(F.defaults=.none/\h=[])) (Tj:ah f (vI f.dD) d.kI h) (Xs:d.kI.length<=d.np) (Xr:∀(i:Nat)(a:Arg),b[i]?=some a->(a.arg,i)∈g) (Y3:(g.map (·.1)).Nodup) (Xq:(g.map (·.2)).Nodup) (Ti:∀y∈g,y.2<d.ns/\(F.scope.names.lookup y.1=some .local\/(F.scope.names.lookup y.1=some .cell))) (Y0:iR (xJ f.T k ⟨F.scope.names,g,d.ns⟩) e d.body=true):Cb f d j
theorem Cb.fn (x:Cb q z u):∃o F,q.dD.get? u=some o/\o.data=.func F:=by induction x;exact⟨_,_,by assumption,by assumption⟩
inductive gp(b:Cx)(W:Gh)(h:Heap)(c:List (Nat×Addr)):Nat->List RV->List Value->Prop
 |nil {k:Nat}:gp b W h c k [] []
 |val {k:Nat} {x:PV} {v:Value} {e:List RV} {d:List Value}:aA b W x v->gp b W h c (k+1) e d->gp b W h c k (.v x::e) (v::d)
 |mt {k:Nat} {m:RV} {a:Addr} {e:List RV} {d:List Value}:gj m=true->m.tag=some k->(k,a)∈c->ey b W h a m->gp b W h c (k+1) e d->gp b W h c k (m::e) (.ref a::d)
structure LsOk(W:Gh)(ls:List (Nat×Addr)):Prop where
 mu:∀p∈ls,∃i,W.O p.2=some (.mu i)\/W.O p.2=some (.le i)
 k:∀p∈ls,∀q∈ls,p.1=q.1->p=q
 a:∀p∈ls,∀q∈ls,p.2=q.2->p=q
noncomputable def Dv(t d:Option cL):Option cL:=t.casesOn d λt=>t.casesOn (λo=>some<|.fz o) (λn=>some<|.gl n) d (λ_=>d) (λ_=>d) λ_=>d
open Classical in
def Gh.enter (W:Gh) (q:List (Nat×Addr)):Gh:=⟨λb=>if h:∃k,(k,b)∈q then some (.le h.choose)else Dv (W.O b) none,W.F⟩
def Gh.leave (W W2:Gh):Gh:=⟨λb=>Dv (W2.O b)<|W.O b,W2.F⟩
open Classical in
def Gh.jP (W:Gh) (L:Addr) (locs:List (Option Loc)):Gh:=⟨λb=>if b=L then some .fr else if h:∃i,locs[i]?=some (some<|.c b)then some (.ce h.choose)else W.O b,W.F⟩
section
variable{W:Gh}
theorem ug(l:LsOk W c){k}(h:(k,b)∈c):(W.enter c).O b=some (.le k):=
 have d:∃k,(k,b)∈c:=⟨k,h⟩
 (dif_pos d).trans (congrArg (λk=>some<|cL.le k)<|congrArg (·.1)<|l.a _ d.choose_spec _ h rfl)
theorem mZ(h:∀k,(k,b)∉c):(W.enter c).O b=Dv (W.O b) none:=dif_neg λa=>fN a λk z=>h k z
theorem LsOk.not (l:LsOk W u) {k} (z:(k,b)∈u) (h:W.O b=some t) {C:Prop} (m:∀i,t=.mu i->C) (e:∀i,t=.le i->C):C:=fN (l.mu _ z) λi q=>q.elim (λq=>m i<|sJ<|h.symm.trans q) λq=>e i<|sJ<|h.symm.trans q
theorem zN(l:LsOk W a)(h:W.O b=some (.fz o)):(W.enter a).O b=some (.fz o):=(mZ λk z=>l.not z h (λ_ q=>nomatch q) λ_ q=>nomatch q).trans<|congrArg (Dv · none) h
theorem zM(l:LsOk W a)(h:W.O b=some (.gl m)):(W.enter a).O b=some (.gl m):=(mZ λk z=>l.not z h (λ_ q=>nomatch q) λ_ q=>nomatch q).trans<|congrArg (Dv · none) h
theorem Np(h:Dv x none=some t):(∃o,t=.fz o/\x=some (.fz o))\/(∃m,t=.gl m/\x=some (.gl m)):=by
 induction x with
 |none=>exact nE h
 |some a=>induction a with
  |fz o=>exact .inl ⟨o,(sJ h).symm,rfl⟩
  |gl m=>exact .inr ⟨m,(sJ h).symm,rfl⟩
  |_=>exact nE h
theorem zO(l:LsOk W a)(h:(W.enter a).O b=some t):(∃k,(k,b)∈a/\t=.le k)\/(∃o,t=.fz o/\W.O b=some (.fz o))\/(∃m,t=.gl m/\W.O b=some (.gl m)):=by
 by_cases c:∃k,(k,b)∈a
 .exact fN c λk d=>.inl ⟨k,d,(sJ<|(ug l d).symm.trans h).symm⟩
 .exact .inr<|Np<|(mZ λk z=>c ⟨k,z⟩).symm.trans h
theorem hJ(l:LsOk W d)(h:W.O b=none\/W.O b=some .fr\/(∃i,W.O b=some (.ce i))\/((∃i,W.O b=some (.mu i)\/W.O b=some (.le i))/\∀k,(k,b)∉d)):(W.enter d).O b=none:=by
 have a:∀{x:Option cL},W.O b=x->Dv x none=none->(∀k,(k,b)∉d)->(W.enter d).O b=none:=λe f c=>(mZ c).trans<|(congrArg (Dv · none) e).trans f
 rcases h with h|h|⟨j,h⟩|⟨⟨j,h|h⟩,c⟩
 .exact a h rfl λk z=>fN (l.mu _ z) λi q=>q.elim (λq=>nE<|h.symm.trans q) λq=>nE<|h.symm.trans q
 .exact a h rfl λk z=>l.not z h (λ_ q=>nomatch q) λ_ q=>nomatch q
 .exact a h rfl λk z=>l.not z h (λ_ q=>nomatch q) λ_ q=>nomatch q
 .exact a h rfl c
 .exact a h rfl c
theorem Hw{locs}:(W.jP L locs).O L=some .fr:=if_pos rfl
theorem Hv{locs}(d:∀i j:Nat,locs[i]?=some (some<|Loc.c b)->locs[j]?=some (some<|Loc.c b)->i=j)(e:b≠L)(h:locs[i]?=some (some<|Loc.c b)):(W.jP L locs).O b=some (.ce i):=by
 have a:∃i,locs[i]?=some (some<|Loc.c b):=⟨i,h⟩
 exact(if_neg e).trans<|(dif_pos a).trans<|congrArg (λi=>some<|cL.ce i)<|d _ _ a.choose_spec h
theorem yP{locs}(d:b≠L)(h:∀i:Nat,locs[i]?≠some (some<|Loc.c b)):(W.jP L locs).O b=W.O b:=(if_neg d).trans<|dif_neg λa=>fN a λi z=>h i z
theorem places_len(a)(L)(b)(d)(c):(placesOf a L b d c).length=c:=(im _).trans ba
theorem FD{a:List (Str×Nat)}{x i}:(a.map (·.2)).Nodup->(x,i)∈a->a.find? (λy=>y.2==i)=some (x,i):=a.rec (λ_ m=>nomatch m) λy a b c m=>yY (Wp.mp c) λf d=>lO.trans ((rc.mp m).elim (λe=>e▸(beq_self_eq_true i).symm▸rfl) λm=>(beq_eq_false_iff_ne.mpr λe=>f (to.mpr ⟨(x,i),m,e.symm⟩):(y.2==i)=false).symm▸b d m)
theorem vq(g:(c.map (·.2)).Nodup)(e:(x,i)∈c)(f:i<d):(placesOf a L b c d)[i]?=some (some<|placeOf a L b x):=H1.trans ((congrArg _<|Eo f).trans<|congrArg some<|congrArg _<|FD g e)
theorem places_from(h:(placesOf a L b e g)[i]?=some (some c)):∃x,(x,i)∈e/\i<g/\c=placeOf a L b x:=mE (H1.symm.trans h) λj n m=>mE m λy f l=>(ty.mp n).elim λd k=>⟨y.1,((eq_of_beq<|List.find?_some (p:=λy:Str×Nat=>y.2==j) f).trans (k.symm.trans<|List.getElem_range _):y.2=i)▸(List.mem_of_find?_eq_some f:(y.1,y.2)∈e),Gy d ba,l.symm⟩
end
section
variable{Z:Cx} {locs:List (Option Loc)} {W:Gh} {h h':Heap} {rr:List (Option RV)} {g:List GO} {ls:List (Nat×Addr)}
theorem gp.len (x:gp Z W h ls k z u):z.length=u.length:=by
 induction x with
 |nil=>rfl
 |val _ _ q=>exact congrArg dO q
 |mt _ _ _ _ _ q=>exact congrArg dO q
inductive Ko(Z:Cx)(W:Gh)(h:Heap)(ls:List (Nat×Addr))(j:Nat):RV->Value->Prop
 |val {p:PV} {v:Value}:aA Z W p v->Ko Z W h ls j (.v p) v
 |mt {m:RV} {a:Addr}:gj m=true->m.tag=some j->(j,a)∈ls->ey Z W h a m->Ko Z W h ls j m (.ref a)
theorem gp.at_ (x:gp Z W h ls k J C):∀(i)(a),J[i]?=some a->∃v,C[i]?=some v/\Ko Z W h ls (k+i) a v:=by
 have z:∀{k i:Nat},k+1+i=k+(i+1):=λ{k i}=>(AT k 1 i).trans<|wn k i 1
 induction x with
 |nil=>exact λi a h=>nE h
 |val D _ u=>
  intro i a h;induction i with
  |zero=>obtain rfl:=sJ h;exact⟨_,rfl,.val D⟩
  |succ i=>have q:=u i a h;rw[z]at q;exact q
 |mt I H F E _ u=>
  intro i a h;induction i with
  |zero=>obtain rfl:=sJ h;exact⟨_,rfl,.mt I H F E⟩
  |succ i=>have q:=u i a h;rw[z]at q;exact q
noncomputable def Vv(a:cx)(b:List RV)(g:List GO):St:=⟨b.map some++(a.kI.drop<|a.kI.length+b.length - a.np).map (λx=>some<|.v x)++UF (a.ns - a.np) none,g⟩
theorem lU(e:a.lookup x=some .local\/a.lookup x=some .cell):(a.lookup x=some .local/\placeOf a L (cellsFrom (L+1) a []) x=.d L x)\/(a.lookup x=some .cell/\∃c,(cellsFrom (L+1) a []).lookup x=some c/\placeOf a L (cellsFrom (L+1) a []) x=.c c):=by
 rcases e with h|h
 .exact .inl ⟨h,by delta placeOf;exact(if_pos h)⟩
 .right;have:=vV x a (L+1) []<|.inl<|gi h
  obtain⟨c,b⟩:=Pi.mp this;refine⟨h,c,b,?_⟩;delta placeOf;rw[if_neg (by rw[h];decide),b];rfl
inductive Ki(Z:Cx)(as:List RV)(c b:List Value)(i:Nat):RV->Prop
 |arg {a:RV} {v:Value}:as[i]?=some a->c[i]?=some v->b[i]?=some v->Ki Z as c b i a
 |kI {p:PV} {v:Value}:aA Z (vI Z.dD) p v->b[i]?=some v->Ki Z as c b i (.v p)
theorem aar{a d n:Nat}(c:a<=n)(b:n<=a+d):a+(d -(d+a - n))=n:=by obtain⟨j,rfl⟩:=iz c;rw[wp d a,Nat.add_sub_add_left,Nat.sub_sub_self<|jY b]
theorem Hk{n k m i}(q:c.length+(D.drop k).length=n)(b:c.length=l.length)(t:ah Z (vI Z.dD) D u)(e:(c.map some++(D.drop k).map (λx=>some<|.v x)++UF m none)[i]?=some (some r)):i<n/\Ki Z c l (l++u.drop k) i r:=by
 rw[sK]at e;rcases jw i c.length with h|h
 .rw[IR (by rw[im];exact h),H1]at e
  refine mE e λa f d=>?_;cases d;have o:=At<|b▸h
  exact⟨bh h (q▸pp ..),.arg f o<|(IR<|b▸h).trans o⟩
 .rw[Fk (by rw[im];exact h),im]at e
  refine fN (iz h) λj s=>?_;subst s;rw[Sc]at e;rcases jw j (D.drop k).length with h'|h'
  .rw[IR (by rw[im];exact h'),H1]at e
   refine mE e λp f d=>?_;obtain rfl:=sJ d;exact((t.drop k).get f).elim λv z=>⟨q▸fY h' _,.kI z.2<|(Fk (b▸pp ..)).trans (by rw[<-b,Sc];exact z.1)⟩
  .rw[Fk (by rw[im];exact h'),List.getElem?_replicate]at e
   split at e<;>exact nomatch e
structure Ca(lo:List (Option Loc))(L:Addr)(h h':Heap):Prop where
 fL:h.get? L=none
 ns:∃m,h'.Ns L m
 d:∀{i:Nat}{L':Addr}{y:Str},lo[i]?=some (some<|.d L' y)->L'=L
 ap:∀{i j:Nat}{L':Addr}{x:Str},lo[i]?=some (some<|.d L' x)->lo[j]?=some (some<|.d L' x)->i=j
 hu:∀{b:Addr}(i j:Nat),lo[i]?=some (some<|Loc.c b)->lo[j]?=some (some<|Loc.c b)->i=j
 cl:∀{i:Nat}{c:Addr},lo[i]?=some (some<|Loc.c c)->c≠L/\h.get? c=none
 cc:∀{i:Nat}{c:Addr},lo[i]?=some (some<|Loc.c c)->∃v,h'.IsCell c v
def X6(a:List (Str×eh))(L:Addr)(b:List (Str×Nat))(i:Nat)(l:Loc):Prop:=l.casesOn (λd x=>d=L/\(x,i)∈b) λc=>∃x,(x,i)∈b/\(cellsFrom (L+1) a []).lookup x=some c
theorem VR(b:(x,i)∈d)(e:a.lookup x=some .local\/a.lookup x=some .cell):X6 a L d i (placeOf a L (cellsFrom (L+1) a []) x):=(lU e).elim (λz=>z.2▸⟨rfl,b⟩) λz=>z.2.elim λc q=>q.2▸⟨_,b,q.1⟩
theorem VQ(X:InCallC s L m (cellsFrom (L+1) c []) F l)(v:L=s.heap.objs.size)(t:(k.map (·.1)).Nodup)(w:∀y∈k,y.2<r/\(c.lookup y.1=some .local\/c.lookup y.1=some .cell)):Ca (placesOf c L (cellsFrom (L+1) c []) k r) L s.heap l.heap:=by
 have f:∀{i:Nat}{n:Loc},(placesOf c L (cellsFrom (L+1) c []) k r)[i]?=some (some n)->X6 c L k i n:=λh=>by exact eV (places_from h) λx u _ e=>e▸VR u (w _ u).2
 have d:∀{x:Str}{i j:Nat},(x,i)∈k->(x,j)∈k->i=j:=λa b=>bn<|(mem_lookup t a).symm.trans<|mem_lookup t b
 refine⟨b0<|EQ v.symm,⟨_,X.toInCall.ns⟩,λh=>?_,λp o=>?_,λi j p o=>?_,λh=>?_,λh=>?_⟩
 .exact(f h).1
 .exact d (f p).2 (f o).2
 .exact aO (f p) λ_ C E=>aO (f o) λ_ A D=>d C<|name_of_addr X.apart (fO E) (fO D)▸A
 .exact aO (f h) λ_ _ q=>have z:=X.above _ _<|fO q;⟨UP z,b0<|ck<|v▸z⟩
 .exact aO (f h) λ_ _ q=>⟨_,X.cell _ _ q⟩
theorem HJ{d:List Str}(X:InCallC s L (bindL (λx=>a.lookup x) (d.zip b) λ_=>none) (cellsFrom (L+1) a []) (bindC (λx=>a.lookup x) (d.zip b) λ_=>none) e) (k:d.Nodup) (z:∀(i:Nat)(x:Str),d[i]?=some x->(x,i)∈j) (w:(j.map (·.2)).Nodup) (o:∀y∈j,y.2<u/\(a.lookup y.1=some .local\/a.lookup y.1=some .cell)) (A:d.length<=b.length) (C:i<d.length) (D:b[i]?=some v):∃f,(placesOf a L (cellsFrom (L+1) a []) j u)[i]?=some (some f)/\bP e.heap f v:=by
 have m:=At C;generalize d[i]=x at m;have l:=z i x m;have n:((d.zip b).map (·.1)).Nodup:=by rw[Kw A];exact k
 have p:(x,v)∈d.zip b:=dh.mpr ⟨i,wo.mpr ⟨m,D⟩⟩;refine⟨placeOf a L (cellsFrom (L+1) a []) x,vq w l (o _ l).1,?_⟩;rcases lU (L:=L) (o _ l).2 with⟨q0,q⟩|⟨q0,c,t,r⟩
 .exact q▸⟨_,X.toInCall.ns,J3 _ _ _ x v n p q0⟩
 .rw[r];have:=X.cell x c t;rw[J4 _ _ _ x v n p (by rw[q0];decide)]at this
  exact this
inductive wc(W:Gh)(ls:List (Nat×Addr))(L:Addr)(lo:List (Option Loc)):Addr->cL->Prop
 |fr:wc W ls L lo L .fr
 |ce {b:Addr} {i:Nat}:lo[i]?=some (some<|.c b)->wc W ls L lo b (.ce i)
 |le {b:Addr} {i:Nat}:(i,b)∈ls->(∃t,W.O b=some t)->wc W ls L lo b (.le i)
 |fz {b:Addr} {o:Obj}:W.O b=some (.fz o)->wc W ls L lo b (.fz o)
 |gl {b:Addr} {m:Nat}:W.O b=some (.gl m)->wc W ls L lo b (.gl m)
section
variable{lo:List (Option Loc)} {L:Addr} (P:Ca lo L h h')
include P
theorem Ca.jP (l:LsOk W ls) {b:Addr} {t:cL} (e:((W.enter ls).jP L lo).O b=some t):wc W ls L lo b t:=by
 by_cases q:b=L
 .subst q;replace e:=Hw▸e;refine sE e ?_;exact .fr
 .by_cases u:∃i:Nat,lo[i]?=some (some<|Loc.c b)
  .obtain⟨i,D⟩:=u;replace e:=(Hv P.hu q D)▸e;refine sE e ?_;exact .ce D
  .replace e:=(yP q λi z=>u ⟨i,z⟩)▸e;rcases zO l e with⟨k,C,rfl⟩|⟨o,rfl,z⟩|⟨m,rfl,z⟩
   .exact .le C<|(l.mu _ C).elim λi z=>z.elim (λz=>⟨_,z⟩) λz=>⟨_,z⟩
   .exact .fz z
   .exact .gl z
theorem Ca.out {b:Addr} {o:Obj} (e:h.get? b=some o):((W.enter ls).jP L lo).O b=(W.enter ls).O b:=yP (λq=>nE<|P.fL.symm.trans<|q▸e) λi z=>nE<|(P.cl z).2.symm.trans e
theorem Ca.upz (l:LsOk W ls) {b:Addr} {o q:Obj} (e:W.O b=some (.fz o)) (u:h.get? b=some q):((W.enter ls).jP L lo).O b=some (.fz o):=(P.out u).trans<|zN l e
theorem Ca.upg (l:LsOk W ls) {b:Addr} {m:Nat} {q:Obj} (e:W.O b=some (.gl m)) (u:h.get? b=some q):((W.enter ls).jP L lo).O b=some (.gl m):=(P.out u).trans<|zM l e
theorem Ca.rel {D:List (Option RV)} (R:Rel Z locs W rr g h) (l:LsOk W ls) (G:gI h h') (C:lo.length=D.length)(F:W.Le ((W.enter ls).jP L lo)->∀(i:Nat)(E:RV),D[i]?=some (some E)->∃u v,lo[i]?=some (some u)/\bP h' u v/\oG Z ((W.enter ls).jP L lo) h' i E v):Rel Z lo ((W.enter ls).jP L lo) D g h':=by
 have le:W.Le ((W.enter ls).jP L lo):=⟨λb o e=>P.upz l e<|R.fz b o e,λ_ _ e=>e⟩
 have q:∀{b:Addr}{t:cL},W.O b=some t->∃o,h'.get? b=some o:=λe=>(R.sz _ _ e).elim λo z=>⟨o,G.keep _ _ z⟩;refine⟨λb t e=>?_,λb o e=>?_,λb o e=>P.upz l (R.base b o e) (R.fz b o (R.base b o e)),⟨R.gl.len,λm J e=>(R.gl.at_ m J e).elim λb z=>(R.sz _ _ z.2.1).elim λo H=>⟨b,z.1,P.upg l z.2.1 H,z.2.2.at_ le λ_ e=>G.keep _ _ e⟩⟩,C,λi u e=>?_,λi j O x N M=>P.ap N M,F le⟩
 .induction P.jP l e with
  |fr=>exact(P.ns.elim λ_ z=>z.elim λo z=>z.elim λ_ z=>z.elim λ_ z=>⟨o,z.1⟩)
  |ce I=>exact(P.cc I).elim λ_ z=>z.elim λo z=>⟨o,z.1⟩
  |le _ z=>exact z.elim λ_ z=>q z
  |fz z=>exact q z
  |gl z=>exact q z
 .cases P.jP l e with|fz z=>exact G.keep _ _<|R.fz b o z
 .induction u with
  |d O y=>cases P.d e;exact⟨Hw,P.ns⟩
  |c c=>exact⟨Hv P.hu (P.cl e).1 e,P.cc e⟩
end
theorem FH{d:List Str}(R:Rel Z locs W rr g s.heap) (l:LsOk W ls) (hL:L=s.heap.objs.size) (C:gp Z W s.heap ls 0 n k) (O:ah Z (vI Z.dD) fd.kI p)(h1:n.length<=fd.np) (h2:fd.np<=n.length+fd.kI.length) (h3:fd.np<=fd.ns) (h4:fd.kI.length<=fd.np) (f:d.length=fd.np) (w:d.Nodup)(T:∀(i:Nat)(x:Str),d[i]?=some x->(x,i)∈nm) (n1:(nm.map (·.1)).Nodup) (S:(nm.map (·.2)).Nodup) (N:∀y∈nm,y.2<fd.ns/\(c.lookup y.1=some .local\/c.lookup y.1=some .cell))(X:InCallC s L (bindL (λx=>c.lookup x) (d.zip<|k++p.drop (p.length+k.length - d.length)) λ_=>none) (cellsFrom (L+1) c []) (bindC (λx=>c.lookup x) (d.zip<|k++p.drop (p.length+k.length - d.length)) λ_=>none) j):Rel Z (placesOf c L (cellsFrom (L+1) c []) nm fd.ns) ((W.enter ls).jP L<|placesOf c L (cellsFrom (L+1) c []) nm fd.ns) (Vv fd n g).r g j.heap/\(∀b o,s.heap.get? b=some o->((W.enter ls).jP L<|placesOf c L (cellsFrom (L+1) c []) nm fd.ns).O b=(W.enter ls).O b)/\(∀b i,((W.enter ls).jP L<|placesOf c L (cellsFrom (L+1) c []) nm fd.ns).O b≠some (.mu i))/\(∀b i,((W.enter ls).jP L<|placesOf c L (cellsFrom (L+1) c []) nm fd.ns).O b=some (.le i)->(i,b)∈ls):=by
 have P:=VQ X hL n1 N;have G:gI s.heap j.heap:=⟨X.toInCall.keep⟩;have A:=aar h1 h2;replace A:=eB▸A;replace X:=(O.length▸C.len▸f▸rfl:p.length+k.length - d.length=fd.kI.length+n.length - fd.np)▸X;have u:(k++p.drop (fd.kI.length+n.length - fd.np)).length=d.length:=by rw[ch,<-C.len,<-(O.drop _).length,A,f]
 refine⟨P.rel R l G ?_ λle i F e=>?_,λb o e=>P.out e,(λb i e=>by cases P.jP l e),λb i e=>by cases P.jP l e with|le z=>exact z⟩
 .rw[places_len];show fd.ns=(n.map some++(fd.kI.drop<|fd.kI.length+n.length - fd.np).map (λx=>some<|RV.v x)++UF (fd.ns - fd.np) none).length
  rw[ch,ch,im,im,A,List.length_replicate,F9 h3]
 .obtain⟨U,q⟩:=Hk A C.len O e;cases q with
  | @arg a v q1 q2 H=>
   refine aO (C.at_ i F q1) λv' v1 E=>?_;cases v1.symm.trans q2;refine aO (HJ X w T S N (EQ u.symm) (f▸U) H) λm J I=>?_;refine⟨m,v,J,I,?_⟩;cases E with
   |val z=>exact aA.mono le z
   | @mt _ b zz21 Q D Y=>
    rw[ss]at Q D;have V:((W.enter ls).jP L<|placesOf c L (cellsFrom (L+1) c []) nm fd.ns).O b=some (bV i F):=by obtain⟨o,ho⟩:∃o,s.heap.get? b=some o:=(l.mu _ D).elim λi z=>z.elim (λz=>R.sz _ _ z) λz=>R.sz _ _ z;rw[P.out ho,ug l D,bV,Q];rfl
    have M:=Y.at_ le λo e=>G.keep b o e;induction F with
    |v=>exact ff zz21
    |ml t l=>exact⟨b,rfl,V,M⟩
    |md t ks k=>exact⟨b,rfl,V,M⟩
  |kI E H=>exact aO (HJ X w T S N (EQ u.symm) (f▸U) H) λm J I=>⟨m,_,J,I,aA.mono le<|aA.mono (Jh (st:=⟨rr,g⟩) (s:=s) R) E⟩
end
section
variable{Z:Cx} {locs:List (Option Loc)} {W W' W2:Gh} {s s':Shared} {h':Heap} {r rr:List (Option RV)} {g g':List GO} {st':St} {f:iU} {k:Nat} {ls:List (Nat×Addr)}
inductive mK(Z:Cx)(locs:List (Option Loc))(rr:List (Option RV))(s:Shared)(W:Gh)(ls:List (Nat×Addr))(r:RV)(c:List (Option RV))(g':List GO)(v:Value)(s':Shared):Prop
 |mk (W':Gh) (same:∃h' d,s'={s with heap:=h',toks:=d}) (ext:Ext s.heap W W') (e:dN W s.heap s'.heap) (h:Rel Z locs W' rr g' s'.heap) (t:ky Z W' s'.heap r v) (f:gj r=true->∀a,v=.ref a->s.heap.get? a=none) (b:∀(k:Nat)(m:RV),c[k]?=some (some m)->gj m=true/\m.tag=some k/\∃a,(k,a)∈ls/\W'.O a=W.O a/\ey Z W' s'.heap a m):mK Z locs rr s W ls r c g' v s'
theorem OU{st}:∀{k i m},(ee st k d)[i]?=some (some m)->st.get (k+i)=some m/\m.tag=some (k+i):=by
 induction d with
 |nil=>exact@λk i m h=>nE h
 |cons a d j=>
  intro k;intro c;induction c with
  |zero=>
   intro m h;have b:((st.get k).bind λm=>if m.tag=some k then some m else none)=some m->st.get (k+0)=some m/\m.tag=some (k+0):=λh=>bE h λn e h=>iE h λl q=>by obtain rfl:=sJ q;exact⟨e,l⟩
   have h:=bn h;induction a with
   |v=>exact nE h
   |ml=>exact b h
   |md=>exact b h
  |succ i=>intro m h;have:=j (k:=k+1) (i:=i) h;rw[AT]at this;exact this
structure oH(Z:Cx)(locs lo:List (Option Loc))(rr:List (Option RV))(g:List GO)(s s1 s2:Shared)(W W1 W2:Gh)(ls:List (Nat×Addr))(st':St):Prop where
 R:Rel Z locs W rr g s.heap
 l:LsOk W ls
 free:∀p∈ls,∀i:Nat,(W.O p.2=some (.mu i)\/W.O p.2=some (.le i))->∀rv,rr[i]?≠some (some rv)
 out:∀b o,s.heap.get? b=some o->W1.O b=(W.enter ls).O b
 RJ:∀b i,W1.O b≠some (.mu i)
 Bd:∀b i,W1.O b=some (.le i)->(i,b)∈ls
 F:W1.F=W.F
 VI:∃h' tk',s1={s with heap:=h',toks:=tk'}
 grow:gI s.heap s1.heap
 X2:rV Z lo s1 W1 st' s2 W2
section
variable{lo:List (Option Loc)} {s1 s2:Shared} {W1:Gh} {b:Addr} {o:Obj} (x:oH Z locs lo rr g s s1 s2 W W1 W2 ls st')
include x
theorem oH.jg (e:s.heap.get? b=some o) (z:(W.enter ls).O b=none):s2.heap.get? b=some o/\W2.O b=none:=
 have q:=(x.out b o e).trans z
 ⟨x.X2.keep.free b o (x.grow.keep _ _ e) q,x.X2.ext.new b o (x.grow.keep _ _ e) q⟩
theorem oH.Vm (e:W.O b=some (.fz o)):W2.O b=some (.fz o):=x.X2.ext.le.fz b o<|(x.out b o<|x.R.fz b o e).trans<|zN x.l e
theorem oH.Zv {m:Nat} (e:W.O b=some (.gl m)):W2.O b=some (.gl m):=fN (x.R.sz b _ e) λo q=>x.X2.ext.gl b m<|(x.out b o q).trans<|zM x.l e
theorem oH.noL {t:cL} (e:W.O b=some t) (z:t=.fr\/∃i,t=.ce i):W2.O b=none:=fN (x.R.sz b t e) λ_ C=>(x.jg C<|hJ x.l<|z.elim (λq=>.inr<|.inl<|q▸e) λu=>fN u λi q=>.inr<|.inr<|.inl ⟨i,q▸e⟩).2
theorem oH.RU (z:∃i,W.O b=some (.mu i)\/W.O b=some (.le i)):(∃k,(k,b)∈ls/\(W2.O b=some (.le k)\/∃o,W2.O b=some (.fz o)))\/∃o,s.heap.get? b=some o/\s2.heap.get? b=some o/\W2.O b=none:=by
 obtain⟨o,u⟩:∃o,s.heap.get? b=some o:=fN z λ_ z=>z.elim (x.R.sz b _)<|x.R.sz b _
 by_cases C:∃k,(k,b)∈ls
 .exact fN C λk q=>.inl ⟨k,q,x.X2.ext.ln b k<|(x.out b o u).trans<|ug x.l q⟩
 .exact .inr ⟨o,u,x.jg u<|hJ x.l<|.inr<|.inr<|.inr ⟨z,λk q=>C ⟨k,q⟩⟩⟩
omit x
theorem ID{x}(h:Dv x d=some t):(∃o,t=.fz o/\x=some (.fz o))\/(∃m,t=.gl m)\/d=some t:=by
 induction x with
 |none=>exact .inr<|.inr h
 |some a=>induction a with
  |fz o=>exact .inl ⟨o,(sJ h).symm,rfl⟩
  |gl m=>exact .inr<|.inl ⟨m,(sJ h).symm⟩
  |_=>exact .inr<|.inr h
theorem Wb(z:W2.O b=some (.fz o)):(W.leave W2).O b=some (.fz o):=congrArg (Dv · (W.O b)) z
theorem lvG(z:W2.O b=some (.gl m)):(W.leave W2).O b=some (.gl m):=congrArg (Dv · (W.O b)) z
theorem P1(z:W2.O b=none):(W.leave W2).O b=W.O b:=congrArg (Dv · (W.O b)) z
theorem ZV{k}(z:W2.O b=some (.le k)):(W.leave W2).O b=W.O b:=congrArg (Dv · (W.O b)) z
theorem lvM{k}(z:W2.O b=some (.mu k)):(W.leave W2).O b=W.O b:=congrArg (Dv · (W.O b)) z
theorem Wn:W2.Le (W.leave W2):=⟨λb o z=>Wb z,λ_ _ z=>z⟩
include x
theorem oH.leW:W.Le (W.leave W2):=⟨λb o z=>Wb<|x.Vm z,λm a z=>x.X2.ext.le.gl m a<|x.F.symm▸z⟩
theorem oH.ext:Ext s.heap W (W.leave W2):=by
 refine⟨x.leW,λb o q z=>?_,λb z=>(P1<|x.noL z<|.inl rfl).trans z,λb i z=>(P1<|x.noL z<|.inr ⟨i,rfl⟩).trans z,λb m z=>lvG<|x.Zv z,λb i z=>?_,λb i z=>?_,λb i z=>?_⟩
 .exact(P1 (x.jg q<|hJ x.l<|.inl z).2).trans z
 .rcases x.RU ⟨i,.inl z⟩with⟨k,_,u|⟨o,u⟩⟩|⟨o,_,_,u⟩
  .exact⟨_,(ZV u).trans z,by intro j q;cases q⟩
  .exact⟨_,Wb u,by intro j q;cases q⟩
  .exact⟨_,(P1 u).trans z,by intro j q;cases q⟩
 .rcases x.RU ⟨i,.inr z⟩with⟨k,_,u|⟨o,u⟩⟩|⟨o,_,_,u⟩
  .exact .inl<|(ZV u).trans z
  .exact .inr ⟨o,Wb u⟩
  .exact .inl<|(P1 u).trans z
 .exact(ID z).elim (λh=>fN h λ_ h=>nomatch h.1) λh=>h.elim (λh=>fN h λ_ h=>nomatch h) id
theorem oH.keep:dN W s.heap s2.heap:=⟨λb o q z=>(x.jg q<|hJ x.l<|.inl z).1,λb o q z=>(x.jg q<|hJ x.l<|.inr<|.inl z).1,λb o i q z=>(x.jg q<|hJ x.l<|.inr<|.inr<|.inl ⟨i,z⟩).1⟩
theorem oH.rel:Rel Z locs (W.leave W2) rr st'.g s2.heap:=by
 have C:=x.X2.rel;refine⟨λb t z=>?_,λb o z=>?_,λb o z=>Wb<|C.base b o z,⟨C.gl.len,λm U z=>eV (C.gl.at_ m U z) λa F L J=>⟨a,F,lvG L,J.at_ Wn λ_ q=>q⟩⟩,x.R.len,λi u z=>(x.R.lo i u z).keep x.keep x.ext,x.R.ap,λj H z=>?_⟩
 .induction E:W2.O b with
  |some N=>exact C.sz b N E
  |none=>
   rw[P1 E]at z;obtain⟨o,M⟩:=x.R.sz b t z;induction q:(W.enter ls).O b with
   |none=>exact⟨o,(x.jg M q).1⟩
   |some V=>obtain⟨X,I⟩:=x.X2.ext.tagged<|(x.out b o M).trans q;exact nE<|E.symm.trans I
 .exact(ID z).elim (λh=>fN h λP h=>C.fz b o<|h.2.trans<|h.1▸rfl) λh=>h.elim (λh=>fN h λ_ h=>nomatch h) λh=>C.fz b _<|x.Vm h
 .refine ju (x.R.sl j H z) λu v F L J=>?_;refine⟨u,v,F,L.keep (x.R.lo j u F) x.keep,J.at_ x.leW λb o q O=>?_⟩;have D:=(dY j H).imp (λh=>q.trans<|congrArg _ h) λh=>q.trans<|congrArg _ h
  rcases x.RU ⟨j,D⟩with⟨k,Q,_⟩|⟨P,S,E,I⟩
  .exact(x.free _ Q j D H z).elim
  .obtain rfl:=sJ (S.symm.trans O);exact⟨(P1 I).trans q,E⟩
theorem oH.same:∃h' q,s2={s with heap:=h',toks:=q}:=jF x.VI λ_ _ C=>jF x.X2.same λD u z=>⟨D,u,by rw[z,C]⟩
theorem oH.QD {I:List RV} (k:Nat) (m:RV) (q:(ee st' 0 I)[k]?=some (some m)):gj m=true/\m.tag=some k/\∃a,(k,a)∈ls/\(W.leave W2).O a=W.O a/\ey Z (W.leave W2) s2.heap a m:=by
 refine AH (OU q) λE D=>?_;rw[ss]at E D;refine ju (x.X2.rel.sl k m<|get_slot E) λH v _ _ F=>?_
 have u:∀a,W2.O a=some (bV k m)->ey Z W2 s2.heap a m->∃a,(k,a)∈ls/\(W.leave W2).O a=W.O a/\ey Z (W.leave W2) s2.heap a m:=λa z M=>by
  rw[(by delta bV;refine D▸?_;rfl:bV k m=.le k)]at z
  exact⟨a,x.Bd a k<|x.X2.ext.lw a k z,ZV z,M.at_ Wn λ_ q=>q⟩
 induction m with
 |v=>exact nE D
 |ml t l=>refine eV F λa C z M=>?_;subst C;exact⟨rfl,D,u a z M⟩
 |md t ks J=>refine eV F λa C z M=>?_;subst C;exact⟨rfl,D,u a z M⟩
theorem oH.ret {H:RV} {u:Value} (q:F6 Z s1 W1 s2 W2 H u):ky Z (W.leave W2) s2.heap H u/\(gj H=true->∀a,u=.ref a->s.heap.get? a=none):=by
 have I:∀{a:Addr},(W2.O a=none\/∃i,W2.O a=some (.mu i))->(s1.heap.get? a=none\/∃i,W1.O a=some (.mu i))->(W.leave W2).O a=none/\s.heap.get? a=none:=λ{a} E C=>by
  have F:=C.elim id λ⟨i,C⟩=>absurd C<|x.RJ a i
  have D:s.heap.get? a=none:=by induction q:s.heap.get? a with|none=>rfl|some o=>exact nE<|F.symm.trans<|x.grow.keep _ _ q
  exact⟨(E.elim P1 λ⟨i,z⟩=>lvM z).trans<|x.R.bA D,D⟩
 induction H with
 |v p=>exact⟨aA.mono Wn q,λq=>ff q⟩
 |ml t l=>obtain⟨e0,a,rfl,E,M,C⟩:=q;exact AH (I E C) λF D=>⟨⟨e0,a,rfl,F,M.at_ Wn λ_ q=>q⟩,λ_ J q=>by cases q;exact D⟩
 |md t ks L=>obtain⟨e0,a,rfl,E,M,C⟩:=q;obtain⟨F,D⟩:=I E C;exact⟨⟨e0,a,rfl,F,M.at_ Wn λ_ q=>q⟩,λ_ J q=>by cases q;exact D⟩
theorem oH.post {J:List RV} {F:Fl} {C:Flow} {r:RV} {z:List (Option RV)} (I:QH Z s1 W1 s2 W2 F C) (D:pQ J st' F=some (r,z,g')):(match C with|.ret v=>mK Z locs rr s W ls r z g' v s2|.next=>mK Z locs rr s W ls r z g' .none s2|_=>False):=by
 induction F with
 |brk=>exact nE D
 |cnt=>exact nE D
 |dK=>subst I;cases D;exact⟨_,x.same,x.ext,x.keep,x.rel,rfl,λq=>ff q,x.QD⟩
 |ret L=>refine aO I λu E H=>?_;subst E;cases D;exact⟨_,x.same,x.ext,x.keep,x.rel,(x.ret H).1,(x.ret H).2,x.QD⟩
end
theorem Kc{b:List Arg}{i:Nat}(h:(b.map (·.arg))[i]?=some x):∃a,b[i]?=some a/\a.arg=x:=eL.mp (H1 .. ▸h)
theorem OG{r FT}(FO:Cb Z fd fa)(B:lu Z)(H:jV Z f n)(hfd:FT[fi]?=some fd)(V:fq A (n+1))(R:Rel Z locs W rr g s.heap) (l:LsOk W ls) (ha:gp Z W s.heap ls 0 as vs) (C:∀p∈ls,∀i,(W.O p.2=some (.mu i)\/W.O p.2=some (.le i))->∀rv,rr[i]?≠some (some rv)) (e:lT f FT fi as g=some (r,T,g')):codeAny (model Z.prog Z.w) A (.call (.ref fa) ⟨vs,[]⟩) (λr' s'=>∃v,r'=.ok (.ret v)/\mK Z locs rr s W ls r T g' v s') s:=by
 refine bE e λfd' q e=>?_;obtain rfl:=sJ<|hfd.symm.trans q
 refine iE e λU e=>bE e λy e1 e2=>?_;obtain⟨fl,st'⟩:=y;obtain⟨o,F,body,nm,b,dd,ko,ds,kk,f1,f2,f3,f4,f5,f6,f7,f8,f9,Y7,Y6,Tl,Y5,Xu,Y4,Tj,Xs,Xr,Y3,Xq,Ti,Y0⟩:=FO;have Q:=ha.len;have O:=Tj.length;have m:=ec (st:=⟨rr,g⟩) (s:=s) R;refine codeAny_call_function (by have:=V.dp;omega) (m _ _ f1) f2 f9 Y7 f3 (let⟨c,o',Y,t,J,I,q3,zz22⟩:=f4;⟨c,o',Y,t,J,m _ _ I,q3,zz22⟩) ?_
 refine J1 Y6 (Y4.imp (λ⟨D,o',u,n',J,I,q3,zz22⟩=>⟨D,o',u,n',J,m _ _ I,q3,zz22⟩) id) Xu (by refine Q▸Tl▸?_;exact U.1) (Q▸O▸Tl▸U.2) (by refine O▸Tl▸?_;exact Xs) _ _ _ _ ?_
 refine f5▸?_;have hpn:(b.map (·.arg)).length=fd.np:=(im _).trans Tl
 refine wpAny_newFunctionEnv_cells f8 (λx d=>?_) λenv he s1 X=>?_
 .-- the parameters' places
  obtain⟨i,hi⟩:=dh.mp d;rw[wo]at hi;refine aO (Kc hi.1) λa q h1=>?_;have E:=Xr i a q;rw[h1]at E;exact(Ti _ E).2.imp id λz=>⟨z,vV _ _ _ _<|.inl<|gi z⟩
 .subst he;replace X:=(im (f:=(·.arg)) (as:=b))▸X
  refine YB (FH (nm:=nm) (fd:=fd) R l rfl ha Tj U.1 U.2 Y5 Xs hpn Xu (λi x d=>aO (Kc d) λa q h=>h▸Xr i a q) Y3 Xq Ti X) λR1 M N j=>?_;have hE:ay ⟨F.scope.names,nm,fd.ns⟩ (newEnv F.scope s.heap.objs.size F.globals (cellsFrom (s.heap.objs.size+1) F.scope.names []) (F.qualname++".<locals>.") (some fa) F.code none F.builtins) (placesOf F.scope.names s.heap.objs.size (cellsFrom (s.heap.objs.size+1) F.scope.names []) nm fd.ns):=by
   refine⟨f8,f6,f7,λx i d=>?_,λx d _=>d,λx d=>d,λx d=>d,EQ (places_len ..).symm⟩;have E:=gi d;refine⟨_,vq Xq E (Ti _ E).1,?_⟩;rcases lU (L:=s.heap.objs.size) (Ti _ E).2 with⟨q0,q⟩|⟨q0,c,J,I⟩
   .rw[q];exact⟨q0,rfl,rfl⟩
   .exact I▸⟨.inl q0,J⟩
  refine⟨(B.lim.keeps m).keeps X.toInCall.keep,codeAny_func<|o0 (H.iT Y0 hE ⟨V.hd,by have:=V.dp;show A.depth+1+n<_;omega,by have:=V.un;show A.units+3+_+_<_;omega⟩ R1 e1) (λS s2 P=>?_) λ_ _ z=>z.elim⟩
  obtain⟨W2,X2,PF⟩:=P;have z:=oH.post ⟨R,l,C,M,N,j,rfl,X.toInCall.same,⟨X.toInCall.keep⟩,X2⟩ PF e2;induction S with
  |next=>exact⟨_,rfl,z⟩
  |ret v=>exact⟨_,rfl,z⟩
  |_=>exact z.elim
end
section
variable{Z:Cx} {locs:List (Option Loc)} {A:dA} {W W':Gh} {s s':Shared} {h:Heap} {r rr:List (Option RV)} {g g':List GO} {st st':St} {f:iU} {n k:Nat} {S:iy} {env:Env} {ls:List (Nat×Addr)}
structure wd(Z:Cx):Prop where
 fn:∀(fi:Nat)(fd:cx),Z.T.FT[fi]?=some fd->∃fa,Z.FA[fi]?=some fa/\Cb Z fd fa
 gl:∀(fi:Nat)(fd:cx)(fa:Addr),Z.T.NG fi=true->Z.T.FT[fi]?=some fd->Z.FA[fi]?=some fa->Z.mg fd.name=some (.ref fa)
 cl:∀(c:Nat)(cd:QJ),Z.T.CT[c]?=some cd->∃C,Z.CA[c]?=some C/\Z.mg cd.name=some (.ref C)/\keepIn Z.K (.ref C)=true/\(∃fa fd,Z.FA[cd.init]?=some fa/\Z.T.FT[cd.init]?=some fd/\findIn Z.K (.ref C) "__init__"=some (some<|.ref fa)/\typeIn Z.K (.ref fa)=some (.type "function"))/\∀(x:Str)(fi:Nat),cd.ms.lookup x=some fi->∃fa fd,Z.FA[fi]?=some fa/\Z.T.FT[fi]?=some fd/\findIn Z.K (.ref C) x=some (some<|.ref fa)/\typeIn Z.K (.ref fa)=some (.type "function")
structure Ad(Z:Cx)(f:iU)(n:Nat):Prop extends jV Z f n where
 call:∀{fi:Nat}{fa:Addr}{as:List RV}{vs:List Value}{ls:List (Nat×Addr)}{g g':List GO}{r:RV}{back:List (Option RV)}{A:dA}{W:Gh}{locs:List (Option Loc)}{rr:List (Option RV)}{s:Shared},Z.FA[fi]?=some fa->fq A n->Rel Z locs W rr g s.heap->LsOk W ls->gp Z W s.heap ls 0 as vs->(∀p∈ls,∀i:Nat,(W.O p.2=some (.mu i)\/W.O p.2=some (.le i))->∀rv,rr[i]?≠some (some rv))->f.call fi as g=some (r,back,g')->codeAny (model Z.prog Z.w) A (.call (.ref fa) ⟨vs,[]⟩) (λr' s'=>∃v,r'=.ok (.ret v)/\mK Z locs rr s W ls r back g' v s') s
inductive kA(Z:Cx)(locs:List (Option Loc))(W:Gh)(h:Heap):List Op->List Value->Prop
 |nil:kA Z locs W h [] []
 |rv {p:PV} {v:Value} {os:List Op} {a:List Value}:aA Z W p v->kA Z locs W h os a->kA Z locs W h (.rv (.v p)::os) (v::a)
 |pl {i:Nat} {v:Value} {os:List Op} {a:List Value}:hX Z locs W h (.pl i) v->kA Z locs W h os a->kA Z locs W h (.pl i::os) (v::a)
inductive AP(Z:Cx)(locs:List (Option Loc))(s:Shared)(W:Gh)(st':St)(os:List Op)(a:List Value)(s':Shared):Prop
 |mk (W':Gh) (x:eM Z locs s W st' s' W') (h:kA Z locs W' s'.heap os a):AP Z locs s W st' os a s'
theorem AP.on {os} (h:wpAny (model Z.prog Z.w) A t (AP Z locs s W st' os) No u) (k:∀F C D,eM Z locs s W st' C D->kA Z locs D C.heap os F->Q F C):wpAny (model Z.prog Z.w) A t Q E u:=o0 h (λv C q=>by induction q with|mk D x t=>exact k v C D x t) λ_ _ z=>z.elim
theorem ud(H:qh Z f n)(M:ay S env locs)(Y:fq A n){b}:∀{E os W st st' s},cJ (aw Z.T k S) b E=true->Rel Z locs W st.r st.g s.heap->ue f E st=some (os,st')->wpAny (model Z.prog Z.w) A (spliced<|b.map λe=>(false,eval e env)) (AP Z locs s W st' os) No s:=by
 induction b with
 |nil=>
  intro m;induction m with
  |nil=>intro os W st st' s _ R e;obtain⟨rfl,rfl⟩:=se e;exact spliced_nil ⟨W,.n8 R,.nil⟩
  |cons _ _=>exact@λ_ _ _ _ _ h _ _=>ff h
 |cons pe b L=>
  intro l;cases l with
  |nil=>exact@λ_ _ _ _ _ h _ _=>ff h
  |cons e E=>
   exact@λos W st st' s X R a=>aE X λj d=>by
    change(match e.var? with|some i=>_|none=>_)=_ at a
    induction C:e.var? with
    |some i=>
     rw[C]at a;refine bE a λrv I a=>mE a λz F q=>?_;refine nF (k8<|Ex.var_eq C▸j) λx px u V=>?_
     subst u;refine Gq<|nZ V M R I λy v U Q P l4=>AP.on (L (st':=z.2) d R F) λO t W2 c p=>?_
     exact pE (D:=λos st'=>AP Z locs s W st' os _ t) q ⟨W2,c,.pl (hX.keep (o:=.pl i) ⟨y,U,Q,P⟩ c.ext c.keep) p⟩
    |none=>replace a:=C▸a;exact bE a λx I a=>mE a λz F q=>Gq (EP.C9 (H.e (st':=x.2) j M Y R I) λv zz23 W1 J N=>AP.on (L (st':=z.2) d J.rel F) λO t W2 c p=>pE (D:=λos st'=>AP Z locs s W st' os _ t) q ⟨W2,J.trans c,.rv (aA.mono c.ext.le N) p⟩)
theorem gp.sub (x:gp Z W h ls k I C) (D:∀p∈ls,p∈q):gp Z W h q k I C:=by
 induction x with
 |nil=>exact .nil
 |val z _ u=>exact .val z u
 |mt z H F E _ u=>exact .mt z H (D _ F) E u
noncomputable def iY(i:Nat)(t:Option Nat):cL:=if t.isSome then .le i else .mu i
theorem oq(i)(t):iY i t=.mu i\/iY i t=.le i:=by
 induction t with
 |none=>exact .inl rfl
 |some=>exact .inr rfl
theorem tR(h:iY i t=.mu j\/iY i t=.le j):i=j:=by rcases oq i t with q|q<;>rw[q]at h<;>rcases h with h|h<;>cases h<;>rfl
def mL(locs:List (Option Loc))(W:Gh)(h:Heap)(ls:List (Nat×Addr))(k:Nat)(c:List (Option<|Nat×Option Nat)):Prop:=∀(j i:Nat)(t:Option Nat),c[j]?=some (some (i,t))->∃a b,(k+j,a)∈ls/\locs[i]?=some (some b)/\bP h b (.ref a)/\W.O a=some (iY i t)
theorem mL.cons (x:mL locs W h ls (k+1) H) (E:∀p∈ls,p∈z) (F:∀i t,b=some (i,t)->∃a u,(k,a)∈z/\locs[i]?=some (some u)/\bP h u (.ref a)/\W.O a=some (iY i t)):mL locs W h z k (b::H)
 |0,i,t,q=>F i t<|bn q
 |j+1,i,t,q=>nF (x j i t q) λa u C D=>⟨a,u,E _ (by rw[AT]at C;exact C),D⟩
theorem mL.tail (x:mL locs W h ls k (b::D)):mL locs W h ls (k+1) D:=λj i t q=>nF (x (j+1) i t q) λa u C z=>⟨a,u,by rw[AT];exact C,z⟩
structure Take(Z:Cx)(locs:List (Option Loc))(W:Gh)(h:Heap)(k:Nat)(st:St)(as:List RV)(bs:List (Option<|Nat×Option Nat))(st':St)(vs:List Value)(ls:List (Nat×Addr)):Prop where
 rel:Rel Z locs W st'.r st'.g h
 arg:gp Z W h ls k as vs
 E':LsOk W ls
 lo:∀p∈ls,k<=p.1
 own:∀p∈ls,∃(i:Nat)(t:Option Nat)(rv:RV),W.O p.2=some (iY i t)/\st.r[i]?=some (some rv)
 free:∀p∈ls,∀i:Nat,(W.O p.2=some (.mu i)\/W.O p.2=some (.le i))->∀rv,st'.r[i]?≠some (some rv)
 back:mL locs W h ls k bs
 g:st'.g=st.g
 nn:∀i:Nat,st.r[i]?=some sw->st'.r[i]?=some sw
theorem Take.val {st} (x:Take Z locs W h (k+1) st D C st' q ls) (u:aA Z W p v):Take Z locs W h k st (.v p::D) (sw::C) st' (v::q) ls:=⟨x.rel,.val u x.arg,x.E',λp z=>cN<|x.lo p z,x.own,x.free,x.back.cons (λ_ h=>h) nofun,x.g,x.nn⟩
theorem Take.mut {st} (x:Take Z locs W h (k+1) (st.put i none) as bs st' V ls) (e0:st.get i=some m) (b:m.LG=true) (Y:locs[i]?=some (some I)) (X:bP h I (.ref a))(E:W.O a=some (iY i m.tag)) (M:ey Z W h a m):Take Z locs W h k st (m.gR (some k)::as) (some (i,m.tag)::bs) st' (.ref a::V) ((k,a)::ls):=by
 have O:=(ty.mp<|get_slot e0).1
 have u:(st.put i none).r[i]?=some none:=T0 O;have Q:∀p∈ls,p.2≠a:=λp hp q=>by
  refine xY (x.own p hp) λJ N H F D=>?_;replace F:=E▸q▸F;have:J=i:=tR<|bn F▸oq i m.tag
  subst this;replace D:=u▸D;cases D
 have C:∀{p:Nat×Addr}{P:Nat×Addr->Prop},p∈(k,a)::ls->P (k,a)->(∀p∈ls,P p)->P p:=λ{p P} hp h1 h2=>(rc.mp hp).elim (λe=>e▸h1)<|h2 p
 have U:gj (m.gR<|some k)=true/\(m.gR<|some k).tag=some k:=by induction m with
  |v=>exact ff b
  |ml=>exact⟨rfl,rfl⟩
  |md=>exact⟨rfl,rfl⟩
 refine⟨x.rel,.mt U.1 U.2 (.head _) M.gR (x.arg.sub λp hp=>.tail _ hp),⟨λp hp=>C (P:=λp=>∃j,W.O p.2=some (.mu j)\/W.O p.2=some (.le j)) hp ⟨i,?_⟩ x.E'.mu,λp hp q hq e=>?_,λp hp q hq e=>?_⟩,λp hp=>C (P:=λp=>k<=p.1) hp (v6 _) λp hp=>cN (x.lo p hp),λp hp=>C (P:=λp=>∃(i:Nat)(t:Option Nat)(L:RV),W.O p.2=some (iY i t)/\st.r[i]?=some (some L)) hp ⟨i,m.tag,m,E,get_slot e0⟩ λp hp=>?_,λp hp=>C (P:=λp=>∀i:Nat,(W.O p.2=some (.mu i)\/W.O p.2=some (.le i))->∀L,st'.r[i]?≠some (some L)) hp (λj z L q=>?_) x.free,x.back.cons (λp hp=>.tail _ hp) (λJ N q=>by obtain⟨rfl,rfl⟩:=se q;exact⟨a,I,.head _,Y,X,E⟩),x.g,λj q=>x.nn j ?_⟩
 .exact E▸(oq i m.tag).imp (congrArg _) (congrArg _)
 .rcases rc.mp hp with rfl|hp<;>rcases rc.mp hq with rfl|hq
  .rfl
  .exact absurd (x.lo q hq)<|e▸El _
  .exact absurd (x.lo p hp) (by refine e▸El _)
  .exact x.E'.k p hp q hq e
 .rcases rc.mp hp with rfl|hp<;>rcases rc.mp hq with rfl|hq
  .rfl
  .exact absurd e.symm<|Q q hq
  .exact absurd e<|Q p hp
  .exact x.E'.a p hp q hq e
 .refine xY (x.own p hp) λJ N H F D=>?_;refine⟨J,N,H,F,?_⟩;by_cases q:i=J
  .subst q;replace D:=u▸D;cases D
  .exact(aP q).symm.trans D
 .obtain rfl:=tR (z.imp (λz=>bn<|E.symm.trans z) λz=>bn<|E.symm.trans z)
  replace q:=(x.nn i u)▸q;cases q
 .by_cases z:i=j
  .subst z;replace q:=(get_slot e0)▸q;cases q
  .exact(aP z).trans q
theorem tE{i e d:Type}{P:i->e->d->Prop}{a x b y c z}(q:(a,b,c)=(x,y,z))(h:P a b c):P x y z:=by injection q with m q;injection q with l j;subst m l j;exact h
theorem G8{os c}(H:kA Z locs W h os c):∀{k b bs st st'},sR k os st=some (b,bs,st')->Rel Z locs W st.r st.g h->∃ls,Take Z locs W h k st b bs st' c ls:=by
 induction H with
 |nil=>intro k b bs st st' e R;refine tE (P:=λb bs st'=>∃ls,Take Z locs W h k st b bs st' _ ls) (sJ e) ?_;exact⟨[],R,.nil,⟨nofun,nofun,nofun⟩,nofun,nofun,nofun,nofun,rfl,λ_ q=>q⟩
 |rv d _ o=>intro k b bs st st' e R;exact mE e λz j q=>tE (P:=λb bs st'=>∃ls,Take Z locs W h k st b bs st' _ ls) q<|fN (o j R) λls x=>⟨ls,x.val d⟩
 | @pl i v os c d _ o=>
  intro k b bs st st' e R;refine bE e λm e0 e=>?_;refine eV d λE C w L=>?_;have p:=R.Us C (get_slot e0) w;have u:m.LG=true->(sR (k+1) os<|st.put i none).map (λz=>(m.gR (some k)::z.1,some (i,m.tag)::z.2.1,z.2.2))=some (b,bs,st')->(∃a,v=.ref a/\W.O a=some (bV i m)/\ey Z W h a m)->∃ls,Take Z locs W h k st b bs st' (v::c) ls:=λI e D=>eV D λa d F M=>mE e λz j q=>tE (P:=λb bs st'=>∃ls,Take Z locs W h k st b bs st' (v::c) ls) q (by subst d;exact fN (o j R.mS) λls x=>⟨_,x.mut e0 I C w F M⟩)
  induction m with
  |v y=>exact mE e λz j q=>tE (P:=λb bs st'=>∃ls,Take Z locs W h k st b bs st' _ ls) q<|fN (o j R) λls x=>⟨ls,x.val p⟩
  |ml t l=>exact u rfl e p
  |md t ks J=>exact u rfl e p
theorem Rel.setSlot (R:Rel Z locs W r g h) (D:∃u v,locs[i]?=some (some u)/\bP h u v/\oG Z W h i C v):Rel Z locs W (r.set i<|some C) g h:=⟨R.sz,R.fz,R.base,R.gl,R.len.trans aU.symm,R.lo,R.ap,λj z e=>by
  by_cases q:i=j
  .subst q;exact sJ (sJ<|(T0<|aU▸(ty.mp e).1).symm.trans e)▸D
  .exact R.sl j z ((aP q).symm.trans e)⟩
theorem J8{h2}(l:LsOk W ls)(ext:Ext h W W')(E:dN W h h2)(lo:∀(i:Nat)(c:Loc),locs[i]?=some (some c)->gn W h i c){d}:∀{xs k st},mL locs W h ls k d->(∀(j)(m),xs[j]?=some (some m)->gj m=true/\m.tag=some (k+j)/\∃a,(k+j,a)∈ls/\W'.O a=W.O a/\ey Z W' h2 a m)->Rel Z locs W' st.r st.g h2->Rel Z locs W' (giveBack d xs st).r (giveBack d xs st).g h2:=by
 induction d with
 |nil=>exact@λxs k st _ _ R=>R
 |cons b d F=>
  intro e;cases e with
  |nil=>exact@λk st _ _ R=>R
  |cons x xs=>
   intro k st u t R;refine F (xs:=xs) (st:=st.back b x) (k:=k+1) u.tail (λj m q=>by have:=t (j+1) m q;rw[AT];exact this) ?_
   induction b with
   |none=>exact R
   |some z=>
   induction x with
   |none=>exact R.mS
   |some m=>
    obtain⟨L,J,w,I,H,M⟩:=t 0 m rfl;refine AG (u 0 z.1 z.2 rfl) λa c D o C y=>?_;cases l.k _ I _ D rfl;refine R.setSlot ⟨c,_,o,C.keep (lo z.1 c o) E,?_⟩;have p:=H.trans y;induction m with
    |v=>exact ff L
    |ml=>exact⟨w,rfl,p,M.gR⟩
    |md=>exact⟨w,rfl,p,M.gR⟩
end
section
variable{locs:List (Option Loc)} {W:Gh} {st:St}
theorem gp.pre {q}:∀{us k},ah E W q us->gp E W h H (k+q.length) J F->gp E W h H k (q.map RV.v++J) (us++F):=by
 induction q with
 |nil=>
  intro D;induction D with
  |nil=>exact@λk _ x=>x
  |cons _ _=>exact@λ_ z _=>z.elim
 |cons p q I=>
  intro C;induction C with
  |nil=>exact@λ_ z _=>z.elim
  |cons u us=>exact@λk z x=>.val z.1<|I z.2<|(show k+1+q.length=k+(p::q).length by simp;omega)▸x
theorem uv(H:Ad a f n)(D:fq A n){os}(c:a.FA[E]?=some F)(u:ah a W pre us)(R:Rel a locs W st.r st.g s.heap)(C:kA a locs W s.heap os p)(e:ic f E (pre.map RV.v) (os,st)=some (t,st')):codeAny (model a.prog a.w) A (.call (.ref F) ⟨us++p,[]⟩) (λi b=>∃v,i=.ok (.ret v)/\EP a locs s W st' t v b) s:=by
 refine bE e λz J e=>mE e λy I q=>?_;obtain⟨rfl,rfl⟩:=pJ q;obtain⟨S,x⟩:=G8 C (bs:=z.2.1) (st':=z.2.2) J R;have h:=x.arg;have d:=x.back;rw[im]at h d;refine bw (H.call (back:=y.2.1) (g':=y.2.2) c D x.rel x.E' (gp.pre (k:=0) u (by rw[ss];exact h)) x.free I) λi b q=>?_
 obtain⟨v,q0,Q,P,o,l,O,N,M,L⟩:=q;exact⟨v,q0,Q,⟨P,o,l,J8 (st:={z.2.2 with g:=y.2.2}) (xs:=y.2.1.drop (pre.map RV.v).length) (k:=pre.length) (h2:=b.heap) x.E' o l R.lo d (λj m q=>by rw[gw,im]at q;exact L _ _ q) O⟩,N,M⟩
theorem vY(H:Ad a f n)(l:fq A n){os}(c:a.FA[m]?=some o)(j:ah a W pre us)(R:Rel a locs W st.r st.g s.heap)(k:kA a locs W s.heap os h)(e:ic f m (pre.map RV.v) (os,st)=some (i,b)):wpAny (model a.prog a.w) A (call (.ref o)<|us++h) (EP a locs s W b i) No s:=wpAny_call (bw (uv H l c j R k e) λu t d=>aO d λv q p=>by subst q;exact p)
noncomputable def Gh.inst (W:Gh) (x d:Addr):Gh:=⟨λb=>if b=x then some (.gl W.F.length)else if b=d then some (.gl<|W.F.length+1)else W.O b,W.F++[x,d]⟩
theorem Rel.inst (R:Rel O locs W r g h) (J:x≠d) (hC:O.CA[c]?=some C) (nx:W.O x=none) (nd:W.O d=none) (U:h.get? x=some (instObj C d)) (V:h.get? d=some (dictOf [] 0)):Rel O locs (W.inst x d) r (g++[.inst c,.iK [] []]) h:=by
 have S:(W.inst x d).O x=some (.gl W.F.length):=if_pos rfl;have Q:(W.inst x d).O d=some (.gl<|W.F.length+1):=(if_neg<|oM J).trans<|if_pos rfl
 have P:∀{b:Addr},b≠x->b≠d->(W.inst x d).O b=W.O b:=λh1 h2=>(if_neg h1).trans<|if_neg h2
 have u:∀{b:Addr}{t:cL},W.O b=some t->(W.inst x d).O b=some t:=λ{b t} e=>(P (λz=>nE<|nx.symm.trans<|(congrArg W.O z.symm).trans e) λz=>nE<|nd.symm.trans<|(congrArg W.O z.symm).trans e).trans e
 have I:W.Le (W.inst x d):=⟨λb o e=>u e,λm b e=>(IR (ty.mp e).1).trans e⟩;have D:=R.gl.len;have Y:∀{b:Addr}{t:cL},(W.inst x d).O b=some t->(b=x/\t=.gl W.F.length)\/(b=d/\t=.gl (W.F.length+1))\/W.O b=some t:=λ{b t} e=>by
  by_cases q:b=x
  .exact .inl ⟨q,sJ<|e.symm.trans<|(congrArg (W.inst x d).O q).trans S⟩
  .by_cases H:b=d
   .exact .inr<|.inl ⟨H,sJ<|e.symm.trans<|(congrArg (W.inst x d).O H).trans Q⟩
   .exact .inr<|.inr<|(P q H).symm.trans e
 have E:∀j,(W.F++[x,d])[g.length+j]?=[x,d][j]?:=λj=>D▸(Fk (pp ..)).trans (congrArg ([x,d][·]?) (Sc ..))
 refine⟨λb t e=>?_,λb o e=>?_,λb o e=>u<|R.base b o e,⟨?_,λm X e=>?_⟩,R.len,λi F e=>(R.lo i F e).re λz _ _=>u z,R.ap,λi Z e=>?_⟩
 .exact(Y e).elim (λq=>q.1▸⟨_,U⟩) λq=>q.elim (λq=>q.1▸⟨_,V⟩)<|R.sz b t
 .exact(Y e).elim (λq=>nomatch q.2) λq=>q.elim (λq=>nomatch q.2)<|R.fz b o
 .exact ch.trans<|(congrArg (· +2) D).trans (ch (as:=g) (bs:=[.inst c,.iK [] []])).symm
 .rcases jw m g.length with q|q
  .exact eV (R.gl.at_ m X<|(IR q).symm.trans e) λb N M L=>⟨b,I.gl m b N,u M,L.at_ I λ_ z=>z⟩
  .obtain⟨j,rfl⟩:=Nat.exists_eq_add_of_le q;replace e:[GO.inst c,.iK [] []][j]?=some X:=((Fk q).trans<|congrArg ([GO.inst c,.iK [] []][·]?) (Sc ..)).symm.trans e
   cases j with
   |zero=>exact sJ e▸⟨x,E 0,D▸S,C,d,#[],hC,E 1,U⟩
   |succ j=>induction j with
    |zero=>exact sJ e▸⟨d,E 1,D▸Q,[],0,V,rfl,λ_ _ _ h _=>nE h,Rs _,trivial⟩
    |succ=>exact nE e
 .exact ju (R.sl i Z e) λF v N M L=>⟨F,v,N,M,L.at_ I λb o z e=>⟨u z,e⟩⟩
theorem Ext.inst (E:W.O x=none) (F:W.O d=none) (H:h.get? x=none) (I:h.get? d=none):Ext h W (W.inst x d):=by
 have u:∀{b:Addr}{t:cL},W.O b=some t->(W.inst x d).O b=some t:=λ{b t} e=>by
  have D:b≠x:=by rintro rfl;replace e:=E▸e;exact nE e
  have C:b≠d:=by rintro rfl;replace e:=F▸e;exact nE e
  simp[Gh.inst,D,C,e]
 refine⟨⟨λb o e=>u e,λm b e=>by refine(IR (ty.mp e).1).trans ?_;exact e⟩,λb o z e=>?_,λb e=>u e,λb i e=>u e,λb i e=>u e,λb i e=>⟨_,u e,by intro j q;cases q⟩,λb i e=>.inl (u e),λb i e=>?_⟩
 .have D:b≠x:=by rintro rfl;replace z:=H▸z;exact nE z
  have C:b≠d:=by rintro rfl;replace z:=I▸z;exact nE z
  simp[Gh.inst,D,C,e]
 .simp only[Gh.inst]at e;split at e
  .exact nomatch e
  .split at e
   .exact nomatch e
   .exact e
theorem kY{A s}{a:List jp}(h:wpAny M A (spliced<|a.map λe=>(false,eval e b)) (λc d=>Q ⟨c,[]⟩ d) E s):wpAny M A (evalArgs g true (a.map λe=>(false,eval e b)) []) Q E s:=by
 induction a with
 |nil=>
  refine dL<|o0 h (λc d f=>?_) λ_ _ x=>x
  exact cG<|dL<|wpAny_pure<|dL<|wpAny_pure<|wpAny_pure f
 |cons e i=>exact evalArgs_plain h
theorem JW(B:lu a)(D:wd a)(H:Ad a f n)(v:ay S i locs)(y:fq A n)(L:S.glob x=true)(e:a.T.FT[j]?=some fd)(b:fd.name=x)(u:a.T.NG j=true)(M:c.all notStar=true) (N:cJ (aw a.T k S) c P=true) (R:Rel a locs W st.r st.g s.heap) {os} (U:ue f P st=some (os,m)) (Q:ic f j [] (os,m)=some (E,p)):wpAny (model a.prog a.w) A (eval (.Call (.Name x Z) c [] t) i) (EP a locs s W p E) No s:=by
 refine sA λC I=>?_;refine aO (D.fn j fd e) λO h V=>?_;have d:=D.gl j fd O u e h;rw[b]at d;refine nF V.fn λo F f1 f2=>?_;refine I ?_;refine dL<|qZ B R v L d ?_
 refine(du t i M)▸?_;exact Uh (o:=o) (fd:=F) (kY (AP.on (ud H.toqh v y N R U) λX Y W1 l J=>⟨⟨ec l.rel _ _ f1,f2⟩,o0 (vY (pre:=[]) (us:=[]) H y h trivial l.rel J Q) (λ_ _ q=>EP.then l q) λ_ _ z=>z⟩))
theorem FR{A s}(g:attributeBase o name a (eval o a)=eval o a) (k:methodCallForm (c.length+([]:List Keyword).length) (backTo b<|starEach c a) (backToKw b<|keywordEach [] a)=true) (f:(l.endLine==b.line)=true)(h:wpAny M A (eval o a) (λov e=>∀n,wpAny M A (getMethod ov name n) (λm d=>wpAny M A (callWith b m.1 m.2 (backTo b<|starEach c a) []) Q E d) E e) E s):wpAny M A (eval (.Call (.Attribute o name l) c [] b) a) Q E s:=by
 rw[arm_eval_Call,g];refine dL<|o0 h (λov e j=>dL<|ft ?_) λ_ _ z=>z
 delta methodCall;refine k▸?_;delta calleeOf methodCallPos;refine dL<|cG<|o0 (j _) (λm d i=>?_) λ_ _ z=>z
 simp only[f,cS,jt,if_true];exact dL<|wpAny_pure i
theorem yL{c:List Str}(b:c.length=a.length)(f:∀(j:Nat)(x:Str)(e:DictEntry),c[j]?=some x->a[j]?=some e->∃t,e.key=.str x t)(z:c.idxOf? x=none):shadowIn (some<|dictOf a l) x=some false:=by
 have i:a.any (·.refKey)=false:=by
  rw[dI];intro e k;obtain⟨j,g⟩:=dh.mp k;have d:=(ty.mp g).1;obtain⟨t,h⟩:=f j _ e (At<|b▸d) g
  simp[AE,h]
 simp only[shadowIn,lookIn,dictOf];rw[(by rw[vE b f x,z];rfl:a.find? (·.key.isStr x)=none)]
 simp only[i,jD,if_false];rfl
theorem ML(B:lu i)(LB:wd i)(H:Ad i f n)(he:ay S h locs)(V:fq A n)(hn:gB po=true)(hl:(D.endLine==b.line)=true)(hs:a.all notStar=true) (Y:a.length<20) (hc:aw i.T k S po o=true) (U:cJ (aw i.T k S) a es=true)(R:Rel i locs W st.r st.g s.heap) {os} (e2:f.e o st=some (.v<|.aZ m,l)) (q1:l.g[m]?=some (.inst c)) (q2:l.g[m+1]?=some (.iK ns vs)) (N:(ns.idxOf? x).isNone=true) (e4:i.T.CT[c]?=some cl) (e5:cl.ms.lookup x=some Z)(e7:ue f es l=some (os,J)) (e8:ic f Z [.v<|.aZ m] (os,J)=some (rv,L)):wpAny (model i.prog i.w) A (eval (.Call (.Attribute po x D) a [] b) h) (EP i locs s W L rv) No s:=by
 have t:methodCallForm (a.length+([]:List Keyword).length) (backTo b<|starEach a h) (backToKw b<|keywordEach [] h)=true:=by rw[du b h hs];refine sB.mpr ⟨sB.mpr ⟨bv.mpr λx m=>(to.mp m).elim λ_ q=>q.2▸rfl,rfl⟩,decide_eq_true ?_⟩;exact Ev (show a.length+0+0<20 from Y) (by decide)
 refine FR (oD hn) t hl<|EP.on (H.e hc he V R e2) λv s1 W1 E x2 x3 pl=>?_
 refine qV E.rel x2 q1 q2 λxa C d sl des ep ev hC _ _ hx hd p hk _ _ I=>?_;refine x14 (LB.cl c cl e4) λC' X _ _ _ O=>?_;refine AG (O x Z e5) λfa fd y Q P M=>?_;have CO:=B.cls c C hC;refine ev▸method_fn (nB B.YQ<|ec E.rel) I CO.ga CO.nga (sJ (X.symm.trans hC)▸P) M (yL p hk<|cq.mp N) ?_
 rw[du b h hs];refine aO (LB.fn Z fd Q) λfa' u FO=>?_;refine nF FO.fn λo' F f1 f2=>?_;replace f1:=sJ (u.symm.trans y)▸f1;exact Uh (o:=o') (fd:=F) (kY (AP.on (ud H.toqh he V U E.rel e7) λvs' s2 W2 j o2=>⟨⟨ec j.rel _ _ f1,f2⟩,o0 (vY (pre:=[.aZ m]) (us:=[.ref xa]) H V y (.one (ev▸aA.mono j.ext.le x2)) j.rel o2 e8) (λ_ _ q=>EP.then (E.trans j) q) λ_ _ z=>z⟩))
theorem kA.keep {os} (x:kA z locs W h os C) (e:Ext h W E) (k:dN W h D):kA z locs E D os C:=by
 induction x with
 |nil=>exact .nil
 |rv u _ q=>exact .rv (aA.mono e.le u) q
 |pl u _ q=>exact .pl (hX.keep u e k) q
theorem AO(a:fq A (n+1)):fq (A.under<|.builtin "type.__call__" ⟨.ref C::rest,kw⟩) n:=by
 refine⟨a.hd,?_,?_⟩
 .have:=a.dp;show A.depth+_+n<_;rw[(by with_unfolding_all rfl:(Up "type.__call__" ⟨.ref C::rest,kw⟩).weight=1)];omega
 .have:=a.un;show A.units+_+_+_<_;rw[(by with_unfolding_all rfl:(Up "type.__call__" ⟨.ref C::rest,kw⟩).cUnits=1)];omega
theorem MA(B:lu i)(LB:wd i)(H:Ad i f n)(he:ay S F locs)(hb:fq A (n+1))(hx:S.glob x=true)(Z:i.T.CT[c]?=some cd)(l:cd.name=x)(hs:y.all notStar=true) (hc:cJ (aw i.T k S) y es=true) (R:Rel i locs W st.r st.g s.heap) {os} (e2:ue f es st=some (os,b)) (e4:ic f cd.init [.v<|.aZ b.g.length] (os,{b with g:=b.g++[.inst c,.iK [] []]})=some (.v .none,L)):wpAny (model i.prog i.w) A (eval (.Call (.Name x O) y [] N) F) (EP i locs s W L<|.v<|.aZ b.g.length) No s:=by
 refine sA λC q'=>?_;refine x14 (LB.cl c cd Z) λC hC E p M _=>AG M λfa fd Y hfd V U=>?_;rw[l]at E;refine q' ?_;refine dL<|qZ B R he hx E ?_
 refine(du N F hs)▸?_;refine callWith_of (P:=λh=>i.K.In h) (b5.mpr ⟨dI.mpr λx m=>(to.mp m).elim λ_ q=>q.2▸xz,rfl⟩) (keeps_K p)<|kY<|AP.on (ud H.toqh he (hb.mono<|Tm n) hc R e2) λvs s1 J t o1=>?_
 have X:=nB B.YQ<|ec t.rel
 refine⟨X,wpAny_call ?_⟩;obtain⟨a,gg,dd,tt,j⟩:=s1;refine make_core (makes_of X (B.cls c C hC).made) (looks_findIn X V) (λu=>bind_fn X u U) (.inl rfl) ?_;have vG:a.get? a.objs.size=none:=b0<|v6 _
 have D:a.get? (a.objs.size+1)=none:=b0<|Tm _
 have nd:=t.rel.bA vG;have nx:=t.rel.bA D;have e:gI a ((a.push emptyDict).push<|instObj C a.objs.size):=(gI.push _ _).trans<|.push _ _
 have Q:((a.push emptyDict).push<|instObj C a.objs.size).get? (a.objs.size+1)=some (instObj C a.objs.size):=by have:=On (a.push emptyDict) (o:=instObj C a.objs.size) rfl;rw[vf]at this;exact this
 have R2:=(t.rel.grow e).inst (x:=a.objs.size+1) (d:=a.objs.size) (c:=c) (Nat.succ_ne_self _) hC nx nd Q<|bf _<|On _ rfl
 have E2:=Ext.inst nx nd D vG;have S2:eM i locs ⟨a,gg,dd,tt,j⟩ J {b with g:=b.g++[.inst c,.iK [] []]} ⟨(a.push emptyDict).push<|instObj C a.objs.size,gg,dd,tt,j⟩ (J.inst (a.objs.size+1) a.objs.size):=⟨⟨_,_,rfl⟩,E2,.kT e,R2⟩
 have z:(J.inst (a.objs.size+1) a.objs.size).F[b.g.length]?=some (a.objs.size+1):=by show(J.F++[a.objs.size+1,a.objs.size])[b.g.length]?=_;rw[<-t.rel.gl.len];simp
 have I:=uv (pre:=[.aZ b.g.length]) (us:=[.ref<|a.objs.size+1]) (s:=⟨(a.push emptyDict).push<|instObj C a.objs.size,gg,dd,tt,j⟩) H (AO (C:=C) (rest:=vs) (kw:=[]) hb) Y (.one (by delta aA;exact⟨_,z,rfl⟩)) R2 (o1.keep E2<|.kT e) e4
 refine bw I λr' s' q0=>?_;obtain⟨v,q,W',O,p2,_⟩:=q0;subst q;exact⟨p2,EP.then t ⟨W',S2.trans O,⟨_,O.ext.le.gl _ _ z,rfl⟩,λq=>ff q⟩⟩
end
section
variable{Z:Cx} {locs:List (Option Loc)} {st:St} {n:Nat}
theorem JI(H:jV Z f n)(P:aw Z.T k S (.ListComp d h b y) (.comp D U)=true)(O:ay S z locs)(Q:fq A n)(R:Rel Z locs W st.r st.g s.heap) (e:mv f D U st=some (E,j)):wpAny (model Z.prog Z.w) A (eval (.ListComp d h b y) z) (EP Z locs s W j E) No s:=by
 rw[eval_ListComp];refine D5 (use:=none) H P O Q R e λV C zz24⟨X,N,i,L,J,I,c,m,F⟩=>?_;refine⟨m,F,λh' q=>⟨X,N.but I J q.extBut,?_,L⟩⟩;induction E with
 |v p=>exact i
 |ml t l=>obtain⟨x,a,rfl,u,M⟩:=i;exact⟨x,a,rfl,u,M.at_ .rfl λo e=>SameBut.keep q (by rintro rfl;exact c rfl) e⟩
 |md t ks Y=>obtain⟨x,a,rfl,u,M⟩:=i;exact⟨x,a,rfl,u,M.at_ .rfl λo e=>SameBut.keep q (by rintro rfl;exact c rfl) e⟩
theorem Tq(B:lu Z)(LB:wd Z)(H:Ad Z f n)(P:aw Z.T k S pe e=true)(E:ay S env locs)(hb':fq A (n+1))(R:Rel Z locs W st.r st.g s.heap)(C:nG f Z.T.CT e st=some (d,c)):wpAny (model Z.prog Z.w) A (eval pe env) (EP Z locs s W c d) No s:=by
 have J:=hb'.mono<|Tm n
 have O:=H.toqh
 match k,P with
 |k+1,hc0=>
 have I:=D8 hc0;revert hc0 C;refine hY.casesOn (motive:=λpe e _=>nG f Z.T.CT e st=some (d,c)->aw Z.T (k+1) S pe e=true->wpAny (model Z.prog Z.w) A (eval pe env) (EP Z locs s W c d) No s) I ?_ ?_ ?_ ?_ ?_ ?_ ?_ ?_ ?_ ?_ ?_ ?_ ?_ ?_ ?_ ?_ ?_ ?_ ?_ ?_ ?_ ?_ ?_ ?_
 .exact λe _=>nE e
 .intro a e h C _;have C:rA f e st=some (d,c):=C;delta rA at C;induction hv:e.var? with
  |some i=>rw[hv]at C;exact bE C λx L e=>mE e λl m q=>pE (D:=λd c=>wpAny (model Z.prog Z.w) A _ (EP Z locs s W c d) No s) q<|Rv (Ex.var_eq hv▸h) E R L m
  |none=>replace C:=hv▸C;exact bE C λx L e=>mE e λl m q=>pE (D:=λd c=>wpAny (model Z.prog Z.w) A _ (EP Z locs s W c d) No s) q<|Rw O E J h R L m
 .exact λh e P=>Pz (D:=λd c=>wpAny (model Z.prog Z.w) A _ (EP Z locs s W c d) No s) e<|o0 (JX B P E R) (λu s' q=>EP.val R q.1 q.2) λ_ _ z=>z
 .exact λh m e P=>Pz (D:=λd c=>wpAny (model Z.prog Z.w) A _ (EP Z locs s W c d) No s) e<|o0 (JX B P E R) (λu s' q=>EP.val R q.1 q.2) λ_ _ z=>z
 .exact λh e P=>mE e λx L q=>pE (D:=λd c=>wpAny (model Z.prog Z.w) A _ (EP Z locs s W c d) No s) q<|Vb P E R L
 .exact λh e _=>uw O E J rfl h R e
 .exact λh e _=>uw O E J rfl h R e
 .exact λh e _=>bE e λp L e=>bE e λx m e=>mE e λt F q=>pE (D:=λd c=>wpAny (model Z.prog Z.w) A _ (EP Z locs s W c d) No s) q<|Mv O E J h R L m F
 .exact λh e _=>bE e λx L e=>mE e λi m q=>pE (D:=λd c=>wpAny (model Z.prog Z.w) A _ (EP Z locs s W c d) No s) q<|MB O E J h R<|L.trans<|(RV.cU m)▸rfl
 .exact λh m e _=>bE e λp F e=>bE e λq N e=>bE e λx M e=>bE e λy Q e=>mE e λz V q=>pE (D:=λd c=>wpAny (model Z.prog Z.w) A _ (EP Z locs s W c d) No s) q<|OO O E J h m R F N M Q V
 .exact λh0 h m e _=>bE e λp F e=>bE e λq N e=>bE e λx M e=>bE e λy Q e=>mE e λz V q=>pE (D:=λd c=>wpAny (model Z.prog Z.w) A _ (EP Z locs s W c d) No s) q<|Oz O E J h0 h m R F N M Q V
 .exact λh0 h m e _=>bE e λt F e=>ite_snd O E J h0 h m R F e
 .exact λU Y h zz25 hf X hi e _=>bE e λo L e=>JW B LB H E J zz25 hf X hi U h R L e
 .intro x p1 p args ci as cl U Y h zz25 hf X e _;refine bE e λo L e=>bE e λcl' m e=>bE e λy F e=>iE e λN q=>?_;obtain rfl:=sJ<|hf.symm.trans m
  exact Pz (D:=λd c=>wpAny (model Z.prog Z.w) A _ (EP Z locs s W c d) No s) q<|MA B LB H E hb' zz25 hf X U h R L<|F.trans<|(RV.DD N)▸rfl
 .exact λU h zz25 X e _=>bE e λp L e=>bE e λx m e=>mE e λz F q=>pE (D:=λd c=>wpAny (model Z.prog Z.w) A _ (EP Z locs s W c d) No s) q<|TP B O E J zz25 X U h R L m F
 .exact λU Y h X P hp m e _=>bE e λp F e=>bE e λx N e=>iE e λM e=>bE e λy Q e=>bE e λz V e=>TN O E J X P hp U Y m h R F N M Q V e
 .intro x p1 p e args o as U Y h P hp m C _;refine bE C λy F C=>bE C λz N C=>iE C λM C=>bE C λcl Q C=>bE C λfi V C=>bE C λos h8 C=>?_;exact Ao (qW N) λq1 q2 q3=>ML B LB H E J P hp U Y m h R (F.trans<|q1▸rfl) q2 q3 M Q V h8 C
 .intro x p e o ha P h C _;refine bE C λy F C=>bE C λz N C=>bE C λj M C=>mE C λv Q q=>?_;exact Ao (qW N) λq1 q2 q3=>pE (D:=λd c=>wpAny (model Z.prog Z.w) A _ (EP Z locs s W c d) No s) q<|OW B O E J ha P h R (F.trans<|q1▸rfl) q2 q3 M Q
 .exact λh m e _=>bE e λp F e=>bE e λk N e=>bE e λx M e=>mE e λy Q q=>pE (D:=λd c=>wpAny (model Z.prog Z.w) A _ (EP Z locs s W c d) No s) q<|LX O E J h m R F N M Q
 .exact λh m F e _=>bE e λp N e=>bE e λa M e=>bE e λb Q e=>bE e λx V e=>mE e λy h8 q=>pE (D:=λd c=>wpAny (model Z.prog Z.w) A _ (EP Z locs s W c d) No s) q<|Rh O E J h m F R N M Q V h8
 .exact λU h e _=>iE e λL e=>mE e λx m q=>pE (D:=λd c=>wpAny (model Z.prog Z.w) A _ (EP Z locs s W c d) No s) q<|LA O E J U h R L m
 .exact λU h e _=>iE e λL e=>mE e λx m q=>pE (D:=λd c=>wpAny (model Z.prog Z.w) A _ (EP Z locs s W c d) No s) q<|M0 O E J U h R L m
 .exact λh0 h m Y e _=>bE e λkk F e=>bE e λv N e=>iE e λM q=>aE M λM Q=>aE Q λ_ V=>Pz (D:=λd c=>wpAny (model Z.prog Z.w) A _ (EP Z locs s W c d) No s) q<|Of B O E J h0 h m Y R F N M<|dT V
 .exact λh e P=>JI H.tojV P E J R e
def vo(e:jp):Bool:=!(co (view e).tag 1||(co (view e).tag 4||co (view e).tag 5))&& !(co (view e).tag 2&&decide ((view e).Vd=.Not))
theorem isTrue_plain(h:vo c=true)(x:wpAny (model Z.prog Z.w) A (eval c a) (λv b=>wpAny (model Z.prog Z.w) A (truthy v) Q No b) No s):wpAny (model Z.prog Z.w) A (bW c a<|eval c a) Q No s:=by
 have e:bW c a (eval c a)=(do let v<-eval c a;standAt c.pos;holding [v] (truthy v)):=by
  cases c with
  |UnaryOp op=>
   induction op with
   |Not=>exact ff h
   |_=>rfl
  |BoolOp=>exact ff h
  |IfExp=>exact ff h
  |Compare=>exact ff h
  |_=>rfl
 exact e▸dL (o0 x (λv b d=>dL<|ft<|cG d) λ_ _ z=>z)
theorem TQ(H:Ad Z f n)(C:aw Z.T k S d e=true)(j:ay S c locs)(E:fq A (n+1))(R:Rel Z locs W st.r st.g s.heap)(i:s7 f e st=some (b,st')):wpAny (model Z.prog Z.w) A (bW d c<|eval d c) (BP Z locs s W st' b) No s:=by
 have l:=E.mono<|Tm n
 have m:=H.toqh;have a:∀{d:jp}{e:Ex},vo d=true->(gS f e st).bind (λp=>(p.1.aD p.2).bind λx=>(cF p.2.g x).map λt=>(t,p.2))=some (b,st')->aw Z.T k S d e=true->wpAny (model Z.prog Z.w) A (bW d c<|eval d c) (BP Z locs s W st' b) No s:=λ{d e} N i C=>isTrue_plain N (bE i λp zz26 i=>bE i λx Y i=>mE i λt X q=>pE (D:=λb st'=>wpAny (model Z.prog Z.w) A (eval d c) (λv o=>wpAny (model Z.prog Z.w) A (truthy v) (BP Z locs s W st' b) No o) No s) q<|sP m j l C R zz26 Y X)
 match k,C with
 |k+1,u=>
 have I:=D8 u;revert u i;refine hY.casesOn (motive:=λd e _=>s7 f e st=some (b,st')->aw Z.T (k+1) S d e=true->wpAny (model Z.prog Z.w) A (bW d c<|eval d c) (BP Z locs s W st' b) No s) I ?_ ?_ ?_ ?_ ?_ ?_ ?_ ?_ ?_ ?_ ?_ ?_ ?_ ?_ ?_ ?_ ?_ ?_ ?_ ?_ ?_ ?_ ?_ ?_
 .exact λe _=>nE e
 .exact λ_ e _=>nE e
 .exact λ_=>a rfl
 .exact λ_ _=>a rfl
 .exact λ_=>a rfl
 .exact λh e _=>v9 m j l rfl h R e
 .exact λh e _=>v9 m j l rfl h R e
 .exact λh e _=>mE e λt V q=>pE (D:=λb st'=>wpAny (model Z.prog Z.w) A _ (BP Z locs s W st' b) No s) q<|Yo<|BP.on (m.b (st':=t.2) (b:=t.1) h j l R V) λs1 W1 M=>⟨rfl,W1,M⟩
 .exact λ_=>a rfl
 .exact λ_ _=>a rfl
 .exact λL h J e _=>bE e λp F e=>bE e λq U e=>bE e λx Q e=>bE e λy P e=>mE e λz O q=>pE (D:=λb st'=>wpAny (model Z.prog Z.w) A _ (BP Z locs s W st' b) No s) q<|JL m j l L h J R F U Q P O
 .exact λL h J e _=>bE e λt F e=>I0 m j l L h J R F e
 .exact λ_ _ _ _ _ _ _=>a rfl
 .exact λ_ _ _ _ _ _=>a rfl
 .exact λ_ _ _ _=>a rfl
 .exact λ_ _ _ _ _ _ _=>a rfl
 .exact λ_ _ _ _ _ _=>a rfl
 .exact λ_ _ _=>a rfl
 .exact λ_ _=>a rfl
 .exact λ_ _ _=>a rfl
 .exact λ_ _=>a rfl
 .exact λ_ _=>a rfl
 .exact λ_ _ _ _=>a rfl
 .exact λ_=>a rfl
theorem sound(B:lu Z)(o:wd Z):∀n,Ad Z (ev Z.T.FT Z.T.CT n) n
 |0=>
  {e:=λ_ _ _ _ e=>nE e
   b:=λ_ _ _ _ e=>nE e
   iT:=λ_ _ _ _ e=>nE e
   cu:=λ_ _ _ _ e=>nE e
   call:=λ_ _ _ _ _ _ e=>nE e}
 |n+1=>by
  have H:=sound B o n;exact
  {e:=λj i d R e=>Tq B o H j i d R e
   b:=λj i d R e=>TQ H j i d R e
   iT:=λj i d R e=>OJ B H.tojV i (d.mono<|Tm n) j R e
   cu:=λj i d R e v=>D5 H.tojV j i (d.mono<|Tm n) R e v
   call:=λ{fi fa as vs ls g y r q A W locs rr s} m d R l u f e=>by refine sA λC t=>?_;have p:=e;have c:∃k,Z.T.FT[fi]?=some k:=bE p λk h _=>⟨k,h⟩;obtain⟨k,c⟩:=c;refine aO (o.fn fi k c) λw a x=>?_;replace a:=m▸a;obtain rfl:=sJ a;refine t ?_;exact OG x B H.tojV c d R l u f p}
end
end Mine.Internal
end
section
open PySem PySem.Calls PyProof.Rows PySem.W
namespace Mine.Internal.Hd
theorem aL(h:(a&&b)=true):a=true:=(sB.mp h).1
theorem aR(h:(a&&b)=true):b=true:=(sB.mp h).2
theorem PL{C:Prop}(h:(a||b)=true)(k:a=true->C)(l:b=true->C):C:=(FM.mp h).elim k l
theorem VY{a:Type}{o:Option a}(h:o.isNone=true):o=none:=cq.mp h
def lE(x:List Nat):List Nat->Bool:=x.rec (λy=>y.isEmpty) λa _ c y=>y.casesOn false λb y=>co a b&&c y
theorem Wr:∀{y},lE x y=true->x=y:=by
 induction x with
 |nil=>exact λh=>(eC.mp h).symm
 |cons a x c=>
  intro y h;induction y with
  |nil=>exact ff h
  |cons b y=>exact congr (congrArg _<|ii<|aL h)<|c<|aR h
theorem Nk(x):lE x x=true:=by
 induction x with
 |nil=>rfl
 |cons a x b=>exact sB.mpr ⟨gZ a,b⟩
def kP(a b:Str):Bool:=lE a.cps.toList b.cps.toList
theorem oX(h:kP a b=true):a=b:=by induction a;exact congrArg Str.mk<|Array.toList_inj.mp<|Wr h
theorem qB(a):kP a a=true:=Nk _
def yW{b:Type}(d:b->b->Bool)(l:List b):Bool:=l.rec true λa l c=>!(l.any<|d a)&&c
theorem pw{eq}(h:∀a,eq a a=true){l:List c}(e:yW eq l=true):l.Nodup:=by
 induction l with
 |nil=>exact .nil
 |cons a l b=>exact Wp.mpr ⟨λz=>dI.mp (bN<|aL e) a z<|h a,b<|aR e⟩
def GW(v:Value):Option Addr:=v.rec none none none (λ_=>none) (λ_ _=>none) (λ_ _=>none) (λ_ _=>none) (λ_ _=>none) (λ_=>none) (λ_=>none) some
def vStr(v:Value):Option Str:=v.rec none none none (λ_=>none) (λ_ _=>none) (λ_ _=>none) (λs _=>some s) (λ_ _=>none) (λ_=>none) (λ_=>none) λ_=>none
def vInt(v:Value):Option Int:=v.rec none none none (λ_=>none) (λi _=>some i) (λ_ _=>none) (λ_ _=>none) (λ_ _=>none) (λ_=>none) (λ_=>none) λ_=>none
theorem oT(h:GW v=some a):v=.ref a:=by induction v<;>first|exact nE h|exact congrArg _<|sJ h
theorem Co(h:vStr v=some a):∃t,v=.str a t:=by induction v<;>first|exact nE h|exact⟨_,congrArg (Yd · _)<|sJ h⟩
def Tz(d:Data):Option (Array Value×Nat):=d.rec none (λ_=>none) (λx n=>some (x,n)) (λ_ _=>none) (λ_ _ _=>none) (λ_ _=>none) (λ_=>none) (λ_=>none) (λ_=>none) (λ_=>none) none
def JF(d:Data):Option (Array DictEntry×Nat):=d.rec none (λ_=>none) (λ_ _=>none) (λx n=>some (x,n)) (λ_ _ _=>none) (λ_ _=>none) (λ_=>none) (λ_=>none) (λ_=>none) (λ_=>none) none
def Ou(d:Data):Option Lf:=d.rec none (λ_=>none) (λ_ _=>none) (λ_ _=>none) (λ_ _ _=>none) (λ_ _=>none) (λ_=>none) some (λ_=>none) (λ_=>none) none
def XI(d:Data):Option (Array Value):=d.rec none (λ_=>none) (λ_ _=>none) (λ_ _=>none) (λ_ _ _=>none) (λ_ _=>none) (λ_=>none) (λ_=>none) (λ_=>none) some none
theorem D2(h:Tz d=some y):d=.seq y.1 y.2:=by induction d<;>first|exact nE h|exact sJ h▸rfl
theorem D3(h:JF d=some y):d=.dict y.1 y.2:=by induction d<;>first|exact nE h|exact sJ h▸rfl
theorem Ot(h:Ou d=some y):d=.func y:=by induction d<;>first|exact nE h|exact congrArg _<|sJ h
theorem Ov(h:XI d=some y):d=.fields y:=by induction d<;>first|exact nE h|exact congrArg _<|sJ h
noncomputable def bare(c:String)(o:Obj):Bool:=decide (o.cls=.type c)&&o.dict.isNone&&o.slots.isEmpty
theorem Ed(h:bare c o=true)(e:o.data=d):o={cls:=.type c,dict:=none,data:=d,slots:= #[]}:=by
 induction o;have f:=dT<|aL<|aL h
 have b:=VY<|aR<|aL h
 have a:=Array.isEmpty_iff.mp<|aR h
 dsimp only at f b a e;rw[f,b,a,e]
section
variable(g:Addr->Option Obj)
def all2(r:PV->Value->Bool)(l:List PV):List Value->Bool:=l.rec (λa=>a.isEmpty) λp _ b a=>a.casesOn false λv a=>r p v&&b a
def ZH(c:String)(r:PV->Value->Bool)(l:List PV)(o:Obj):Bool:=bare c o&&(Tz o.data).any λy=>bx y.1.size az&&all2 r l y.1.toList
def uV(e:DictEntry):Int:=(vInt e.key).getD 0
def okE(e:DictEntry):Bool:=rY (uV e) e.key&&e.hash==hashInt (uV e)
def PB(ks:List PV)(a:List DictEntry):Bool:=all2 (λp v=>p.int?.any λi=>rY i v) ks<|a.map (·.key)
def Oi(r:PV->Value->Bool)(ks d:List PV)(c:List DictEntry):Bool:=PB ks c&&c.all okE&&all2 r d (c.map (·.val))&&yW (λ(a b:Int)=>a==b) (c.map uV)
def aaj(r:PV->Value->Bool)(ks a:List PV)(o:Obj):Bool:=bare "dict" o&&(JF o.data).any λy=>bx y.1.size az&&Oi r ks a y.1.toList
def v0(p:PV)(v:Value):Bool:=p.W9&&decide (v=.none)||(p.bool?.any (λb=>decide<|v=.bool b)||(p.int?.any (λi=>rY i v)||p.AV.any λs=>(vStr v).any<|kP s))
def v1(r:PV->Value->Bool)(p:PV)(v:Value):Bool:=v0 p v||(GW v).any λa=>(g a).any λo=>p.lD.any (λl=>ZH "tuple" r l o)||p.cd?.any λk=>!(co a sysModules)&&aaj r k.1 k.2 o
def Q0:PV->Value->Bool:=v1 g<|v1 g<|v1 g<|v1 g v0
variable{g} {Z:Cx} (hs:∀a o,g a=some o->Z.dD.get? a=some o)
theorem xT(d:∀p v,r p v=true->aA Z (vI Z.dD) p v):∀{b},all2 r l b=true->ah Z (vI Z.dD) l b:=by
 induction l with
 |nil=>exact λ{b} h=>by induction b with
  |nil=>trivial
  |cons=>exact ff h
 |cons p l c=>exact λ{b} h=>by induction b with
  |nil=>exact ff h
  |cons v b=>exact⟨d _ _<|aL h,c<|aR h⟩
theorem Pn(h:v0 p v=true):aA Z (vI Z.dD) p v:=PL h (λh=>PV.BA (aL h)▸dT (aR h)) λh=>PL h (λh=>oE h λ_ e h=>PV.Ec e▸dT h) λh=>PL h (λh=>oE h λ_ e h=>PV.cU e▸qj h) λh=>oE h λ_ e h=>oE h λ_ f h=>PV.sY e▸oX h▸Co f
theorem Nr(h:rY k e.key=true):uV e=k:=by obtain⟨t,b⟩:=qj h;unfold uV;exact b▸rfl
theorem Hy:∀{ks},PB ks b=true->ks=b.map (λe=>.int<|uV e):=by
 induction b with
 |nil=>exact λ{ks} h=>by induction ks with
  |nil=>rfl
  |cons=>exact ff h
 |cons e b c=>exact λ{ks} h=>by induction ks with
  |nil=>exact ff h
  |cons k ks=>exact oE (aL h) λi q a=>congr (congrArg _<|(PV.cU q).trans<|congrArg _ (Nr a).symm)<|c<|aR h
theorem HM(h:b.all okE=true):Pairs (intKind c w) b (b.map λe=>(uV e,e.val)):=by
 induction b with
 |nil=>exact .nil
 |cons e b d=>exact .cons (kv:=(uV e,e.val)) (aL<|aL h) rfl<|d<|aR h
theorem mm{c b:Type}{f}{k:c->b}{l:List DictEntry}{P:List b->Prop}(h:P (l.map λe=>k<|f e)):P ((l.map f).map k):=by rw[bD];exact h
theorem Oh{ks}(i:∀p v,r p v=true->aA Z (vI Z.dD) p v)(k:bx d.size az=true)(h:Oi r ks f d.toList=true):∃c,ks=c.map (λx=>.int x.1)/\({cls:=.type "dict",dict:=none,data:=.dict d n,slots:= #[]}:Obj).IsDictOf (intKind Z.prog Z.w) c/\c.length<=az/\ah Z (vI Z.dD) f (c.map (·.2)):=⟨d.toList.map λe=>(uV e,e.val),mm (P:=λz=>ks=z) (Hy (aL (aL (aL h)))),⟨d,n,⟨rfl,rfl,rfl⟩,rfl,λe j=>have q:=bv.mp (aR (aL (aL h))) e (AF.mpr j);⟨uV e,aL q,beq_iff_eq.mp (aR q)⟩,HM (aR (aL (aL h))),mm (P:=List.Nodup)<|pw (eq:=λ(a b:Int)=>a==b) (λa=>beq_self_eq_true a) (aR h)⟩,(im _).trans i6▸io k,mm (P:=ah Z _ f) (xT i (aR (aL h)))⟩
include hs
theorem Cp{r:PV->Value->Bool}(d:∀p v,r p v=true->aA Z (vI Z.dD) p v){p:PV}{v:Value}(h:v1 g r p v=true):aA Z (vI Z.dD) p v:=PL h Pn λh=>oE h λa e h=>oE h λo i h=>
  have f:(vI Z.dD).O a=some (.fz o):=congrArg (jo cL.fz)<|hs _ _ i
  PL h (λh=>oE h λl c h=>oE (aR h) λy b z=>PV.lR c▸⟨a,y.1,y.2,oT e,f.trans<|congrArg (λo=>some<|cL.fz o)<|Ed (aL h)<|D2 b,io<|aL z,xT d<|aR z⟩) λh=>oE h λk c h=>oE (aR<|aR h) λy b z=>PV.QC c▸⟨a,o,oT e,f,bG<|bN<|aL h,.inl<|Ed (aL<|aR h) (D3 b)▸Oh d (aL z) (aR z)⟩
theorem Cn{p:PV}{v:Value}(h:Q0 g p v=true):aA Z (vI Z.dD) p v:=Cp hs (λ_ _=>Cp hs λ_ _=>Cp hs λ_ _=>Cp hs λ_ _=>Pn) h
end
section
variable(g:Addr->Option Obj)
noncomputable def zS(a:Addr):Option Data:=(g a).map (·.data)
def codeB(b:Value)(q:Str):Bool:=(GW b).any λc=>(zS g c).any λd=>(XI d).any λa=>(a[1]?:Option Value).any λv=>(vStr v).any (kP · q)
noncomputable def DE(k:eh):Bool:=decide (k=.local)||decide (k=.cell)
noncomputable def Rz(i:Nat):Option (List Nat):=bif co i 28 then some [0,1,2,6,3,4,5]else bif co i 44 then some [0,1,2,4,3]else
 bif co i 70 then some [0,6,7,1,2,5,3,4,8,9,10]else bif co i 80 then some [0,1,2,3,4,5,6,7,12,8,9,10,11]else none
def V0(i:Nat)(a:List (Str×eh)):List (Str×Nat):=(Rz i).elim ((a.filter λy=>DE y.2).map (·.1)).zipIdx ((a.filter λy=>DE y.2).map (·.1)).zip
def QF(b:List (Str×Nat))(l:List Arg):Nat->Bool:=l.rec (λ_=>true) λa _ c i=>b.any (λy=>kP y.1 a.arg&&co y.2 i)&&c (i+1)
def XF(b:Value)(a:List PV):Bool:=decide (b=.none)&&a.isEmpty||(GW b).any λD=>(zS g D).any λd=>(Tz d).any λy=>all2 (Q0 g) a y.1.toList
def lk(l:List (Str×eh))(x:Str):Option eh:=l.rec none λy _ a=>bif kP x y.1 then some y.2 else a
def PE(b:FuncBody):Option (List nR):=b.rec some λ_=>none
noncomputable def VS(a:Arguments):Bool:=a.posonlyargs.isEmpty&&a.vararg.isNone&&a.kwonlyargs.isEmpty&&a.kwarg.isNone
def fnP(a:cx)(F:Lf):Bool:=codeB g F.code F.qualname&&(F.closure.isEmpty&&(co F.globals mainGlobals&&(co F.builtins builtinsNs&&(decide (F.scope.kind=.function)&&(!F.scope.isCoroutine&&(!F.scope.isGenerator&&VS F.params))))))
def fnR(a:cx)(F:Lf):Bool:=co F.params.args.length a.np&&(bx a.np a.ns&&(yW kP (F.params.args.map (·.arg))&&(XF g F.defaults a.kI&&bx a.kI.length a.np)))
abbrev Dt:=ng×Arguments×FuncBody
def fnQ(T:mD)(a:List (Str×Nat))(c:cx)(t:Dt)(b:List nR):Bool:=QF a t.2.1.args 0&&(yW kP (a.map (·.1))&&(yW co (a.map (·.2))&&(a.all (λy=>SL y.2 c.ns&&(lk t.1.names y.1).any DE)&&iR (xJ T 60 ⟨t.1.names,a,c.ns⟩) b c.body)))
def Zt(T:mD)(i:Nat)(b:cx)(t:Dt):Bool:=(PE t.2.2).any λa=>fnQ T (V0 i t.1.names) b t a
def Vl(a:Addr):Option (Dt):=((zS g a).bind Ou).map λF=>(F.scope,F.params,F.body)
def fnB(a:cx)(b:Addr):Bool:=(zS g b).any λd=>(Ou d).any λF=>fnP g a F&&fnR g a F
theorem bT{a:Type}{x y}{P:Option a->Prop}(h:b=true->P x)(k:b=false->P y):P (bif b then x else y):=match b with
 |true=>h rfl
 |false=>k rfl
theorem CI(h:kP a b=false):(a==b)=false:=beq_eq_false_iff_ne.mpr λz=>xz<|h.symm.trans<|z▸qB a
theorem yy(h:kP a b=true):(a==b)=true:=beq_iff_eq.mpr<|oX h
theorem P4:lk l x=l.lookup x:=by
 induction l with
 |nil=>rfl
 |cons y l a=>
  show(bif kP x y.1 then some y.2 else lk l x)=match x==y.1 with|true=>some y.2|false=>l.lookup x
  exact bT (P:=λz=>z=match x==y.1 with|true=>some y.2|false=>l.lookup x) (λh=>yy h▸rfl) λh=>CI h▸a
theorem Kb:∀{i},QF d l i=true->∀(j)(a),l[j]?=some a->(a.arg,i+j)∈d:=by
 induction l with
 |nil=>exact λ_ j a e=>nE e
 |cons b l f=>
  intro i h j a e;induction j with
  |zero=>
   obtain⟨y,k,c⟩:=P3.mp<|aL h
   exact sJ e▸(Cc (oX<|aL c) (ii<|aR c):y=(b.arg,i))▸k
  |succ j=>exact kN i j▸f (aR h) j a e
theorem q9(h:zS g a=some d):∃o,g a=some o/\o.data=d:=eL.mp h
theorem I4(h:o.any DE=true):o=some .local\/o=some .cell:=oE h λ_ e h=>e▸PL h (λh=>.inl<|congrArg _<|dT h) λh=>.inr<|congrArg _<|dT h
theorem Uw{a:Type}{l:List a}(h:l.isEmpty=true):l=[]:=eC.mp h
theorem Mj(h:VS a=true):a=⟨[],a.args,none,[],a.kw_defaults,none,a.defaults⟩:=by
 cases a;have e:=Uw<|aL<|aL<|aL h
 have d:=VY<|aR<|aL<|aL h
 have c:=Uw<|aR<|aL h
 have b:=VY<|aR h
 dsimp only at e d c b;rw[e,d,c,b]
theorem HA(h:PE b=some l):b=.stmts l:=by induction b<;>first|exact nE h|exact congrArg _<|sJ h
variable{g} {Z:Cx} (hs:∀a o,g a=some o->Z.dD.get? a=some o)
include hs
theorem XH{a:Addr}{p:Data->Bool}{C:Prop}(h:(zS g a).any p=true)(k:∀o,Z.dD.get? a=some o->p o.data=true->C):C:=oE h λ_ e h=>(q9 g e).elim λo q=>k o (hs _ _ q.1)<|q.2▸h
theorem JJ{b:Value}{q:Str}(h:codeB g b q=true):Z.dD.CodeRec b q:=oE h λc e h=>XH hs h λo f h=>oE h λd k h=>oE h λv j h=>oE h λs i h=>(Co i).elim λt q=>⟨c,o,d,t,oT e,f,Ov k,j.trans<|congrArg _<|oX h▸q⟩
theorem Oj{d:Value}{c:List PV}{C:Prop}(h:XF g d c=true)(k:∀f,((∃D o b n,d=.ref D/\Z.dD.get? D=some o/\o.data=.seq b n/\f=b.toList)\/(d=.none/\f=[]))->ah Z (vI Z.dD) c f->C):C:=PL h (λh=>k [] (.inr ⟨dT<|aL h,rfl⟩)<|Uw (aR h)▸trivial) λh=>oE h λD e h=>XH hs h λo i h=>oE h λy j h=>k _ (.inl ⟨D,o,y.1,y.2,oT e,i,D2 j,rfl⟩)<|xT (λ_ _=>Cn hs) h
theorem Te{i:Nat}{m:cx}{n:Addr}{t:Dt}(h:fnB g m n=true)(u:Vl g n=some t)(k:Zt Z.T i m t=true):Cb Z m n:=oE h λd e0 h=>oE h λF e h=>(q9 g e0).elim λo q=>oE ((sJ (u.symm.trans<|congrArg (jo _)<|(congrArg (rK · Ou) e0).trans e):t=(F.scope,F.params,F.body))▸k:Zt Z.T i m (F.scope,F.params,F.body)=true) λl r c=>aE h λb f=>Oj hs (aL<|aR<|aR<|aR f) λv x w=>⟨o,F,l,V0 i F.scope.names,F.params.args,F.params.defaults,F.params.kw_defaults,v,60,hs _ _ q.1,q.2.trans (Ot e),HA r,JJ hs (aL b),Uw (aL (aR b)),ii (aL (aR (aR b))),ii (aL (aR (aR (aR b)))),dT (aL<|aR<|aR<|aR<|aR b),bN<|aL<|aR<|aR<|aR<|aR<|aR b,bN<|aL<|aR<|aR<|aR<|aR<|aR<|aR b,Mj<|aR<|aR<|aR<|aR<|aR<|aR<|aR b,ii<|aL f,io<|aL<|aR f,pw qB<|aL<|aR<|aR f,x,w,io (aR<|aR<|aR<|aR f),λj a s=>ss j▸Kb (aL c) j a s,pw qB<|aL<|aR c,pw gZ<|aL<|aR<|aR c,λy p=>have z:=bv.mp (aL (aR (aR (aR c)))) y p;⟨io (aL z),I4 (P4▸aR z)⟩,aR (aR (aR (aR c)))⟩
end
def Tt:mD:=⟨GTl,FT,CT,ANl,λi=>!(bx 83 i&&bx i 86)⟩
noncomputable def Zl:List Addr:=[157,165,173,181,188,195,202,208,217,232,239,246,253,260,267,274,279,286,293,300,338,345,352,362,367,374,381,388,405,412,420,427,434,441,446,453,460,467,472,530,537,551,558,565,570,577,584,606,839,846,851,856,861,871,878,885,894,899,930,947,954,959,982,987,994,1001,1008,1013,1018,1023,1028,1033,1038,1045,1052,1059,1066,1073,1080,1087,1092,1097,1104,129,143,664,671,420,460,453,460,453,460,453,420,1018,1018,1023,1023,606]
noncomputable def CAl:List Addr:=[146,828]
noncomputable def KAl:List Addr:=[146,145,828,827,793,792,129,143,664,671]
section
variable(g:Addr->Option Obj)
noncomputable def X7(l:List Addr):Frag:=l.filterMap λa=>(g a).map λo=>(a,o)
def PO(a:Addr):List DictEntry:=((zS g a).bind JF).elim [] λy=>y.1.toList
def rR(l:List DictEntry)(x:Str):Option Value:=l.rec none λe _ a=>bif (vStr e.key).any λs=>kP s x then some e.val else a
def Rq(v:Option Value)(a:Addr):Bool:=(v.bind GW).any λb=>co b a
def Xo(T:mD)(e:List DictEntry)(l:List cx):Nat->List Addr->Bool:=l.rec (λ_ a=>a.isEmpty) λb _ d i a=>a.casesOn false λc a=>fnB g b c&&((!(T.NG i)||Rq (rR e b.name) c)&&d (i+1) a)
def Q6(T:mD)(l:List cx):Nat->List Dt->Bool:=l.rec (λ_ _=>true) λb _ a i ts=>ts.casesOn false λt ts=>Zt T i b t&&a (i+1) ts
noncomputable def YU(x:Option (Option Value))(y:Value):Bool:=x.any λz=>z.any λv=>decide<|v=y
noncomputable def YM(x:Option (Option Value)):Bool:=x.any (·.isNone)
def RZ(T:mD)(c:List Addr)(K:Frag)(C:Addr)(x:Str)(a:Nat):Bool:=c[a]?.any λb=>(T.FT[a]?).any λ_=>YU (findIn K (.ref C) x) (.ref b)&&(typeIn K<|.ref b).any λv=>decide<|v=.type "function"
def Qw(T:mD)(K:Frag)(C:Addr):Bool:=(clsIn K C).any (·.hasDict)&&(YU (findIn K (.ref C) "__getattribute__") (.builtin "object.__getattribute__")&&(YM (findIn K (.ref C) "__getattr__")&&(YU (findIn K (.ref C) "__setattr__") (.builtin "object.__setattr__")&& (plainOver K C&&(makesIn K C&&T.AN.all λx=>YM (findIn K (.ref C) x)&&(YM (takerIn K C x)&& !copiedNames.contains x))))))
def XK(T:mD)(c:List Addr)(K:Frag)(e:List DictEntry)(l:List QJ):List Addr->Bool:=l.rec (λa=>a.isEmpty) λb _ d a=>a.casesOn false λC a=>Rq (rR e b.name) C&&(keepIn K (.ref C)&&(RZ T c K C "__init__" b.init&&(b.ms.all (λy=>RZ T c K C y.1 y.2)&&(Qw T K C&&d a))))
def biB(a c:List DictEntry):Bool:=[Bi.len,.range,.sorted,.tuple,.all,.any,.max].all λb=>(rR a b.nm).isNone&&(rR c b.nm).any λv=>decide<|v=pU b
def gtB(a:List DictEntry)(l:List (Str×PV)):Bool:=l.all λy=>(rR a y.1).any λv=>Q0 g y.2 v
def isD(a:Addr):Bool:=(zS g a).any λd=>(JF d).isSome
def CHX(T:mD)(a b:List Addr)(K:Frag):Bool:=isD g mainGlobals&&(isD g builtinsNs&&((g sysModules).isSome&&(gtB g (PO g mainGlobals) T.GT&&(biB (PO g mainGlobals) (PO g builtinsNs)&& (XK T a K (PO g mainGlobals) T.CT b&&Xo g T (PO g mainGlobals) T.FT 0 a)))))
def CHK:Bool:=CHX g Tt Zl CAl<|X7 g KAl
def fT(s:nR):List Dt:=match s with|.FunctionDef _ a b _ _ _ c ..=>[(c,a,.stmts b)]|_=>[]
def TX(l:List nR):List Dt:=l.flatMap fT++l.flatMap λs=>match s with|.ClassDef _ _ _ b ..=>b.flatMap fT|_=>[]
def DF:List Dt:=(IN 1 9++IN 11 11++[27,28,29]++IN 31 5++IN 38 11++[57,58]++IN 60 6++[68]++IN 76 5++IN 82 5++[91]++IN 94 24++[121,123,124,125,40,46,45,46,45,46,45,40,103,103,104,104,68]).filterMap ((TX PySem.Challenge.pw_xm0541_01.main.body)[·]?)
theorem Q5:Q6 Tt FT 0 DF=true:=by kernel_rfl
def Xi(p:lH)(w:gL)(h:Heap)(a b:Str->Option Value):Cx:=⟨p,w,Tt,CAl,Zl,h,X7 g KAl,a,b⟩
theorem C2(h:Rq v a=true):v=some (.ref a):=oE h λb e h=>bE e λx d c=>d.trans<|congrArg _<|(oT c).trans<|congrArg _<|ii h
theorem BD(h:YU x y=true):x=some (some y):=oE h λz e h=>oE h λv a h=>e.trans<|congrArg _<|a.trans<|congrArg _<|dT h
theorem Bh(h:YM x=true):x=some none:=oE h λz e h=>e.trans<|congrArg _<|VY h
theorem Td(a)(x):rR a.toList x=nsFind a x:=by
 obtain⟨l⟩:=a;unfold nsFind findBy;rw[List.find?_toArray];show rR l x=_;induction l with
 |nil=>rfl
 |cons e l b=>
  have k:((vStr e.key).any λs=>kP s x)=e.key.isStr x:=by
   induction e.key with
   |str s t=>
    show kP s x=(s==x);induction q:kP s x with
    |true=>exact(yy q).symm
    |false=>exact(CI q).symm
   |_=>rfl
  rw[lO];show(bif (vStr e.key).any λs=>kP s x then some e.val else rR l x)=_;show _=jo (λe:DictEntry=>e.val) (match e.key.isStr x with|true=>some e|false=>l.find? λe=>e.key.isStr x)
  rw[k];induction e.key.isStr x with
  |true=>rfl
  |false=>exact b
theorem T4(d:∀a o,g a=some o->h.get? a=some o)(l):(X7 g l).In h:=by
 induction l with
 |nil=>exact λa o e=>nE e
 |cons b l c=>
  intro a o e;unfold X7 at e;rw[Er]at e;induction q:g b with
  |none=>rw[q]at e;exact c a o e
  |some x=>
   rw[q]at e;have e:(match a==b with|true=>some x|false=>(X7 g l).lookup a)=some o:=e
   induction z:a==b with
   |true=>rw[z]at e;exact eq_of_beq z▸sJ e▸d _ _ q
   |false=>rw[z]at e;exact c a o e
theorem zd{a:Type}{v}{l:List (Str×a)}(h:l.lookup x=some v):(x,v)∈l:=by
 induction l with
 |nil=>exact nE h
 |cons y l b=>
  have h:(match x==y.1 with|true=>some y.2|false=>l.lookup x)=some v:=h
  induction z:x==y.1 with
  |true=>rw[z]at h;exact eq_of_beq z▸sJ h▸gv
  |false=>rw[z]at h;exact cD _<|b h
variable{g} {Z:Cx} (hs:∀a o,g a=some o->Z.dD.get? a=some o)
include hs
theorem HY{a:Addr}{m:Str->Option Value}(f:Z.dD.Ns a m)(h:isD g a=true)(x:Str):rR (PO g a) x=m x:=oE h λd e h=>by
  obtain⟨y,q⟩:=Pi.mp h;obtain⟨o,c,s⟩:=q9 g e;obtain⟨t,b,r,p,n,_,l⟩:=f;have k:Data.dict y.1 y.2=.dict b r:=(D3 q).symm.trans<|s.symm.trans<|(congrArg Obj.data<|sJ<|(hs _ _ c).symm.trans p).trans n
  have j:PO g a=y.1.toList:=by unfold PO;rw[e];exact congrArg (λz:Option (Array DictEntry×Nat)=>z.elim [] λy=>y.1.toList) q
  have i:y.1=b:=sJ<|congrArg (λd=>(JF d).map Pv) k
  rw[j,Td,i];exact l x
theorem NZ{m:List DictEntry}{l:List cx}:∀{c:List Addr}{i:Nat}{ts},Xo g Z.T m l i c=true->c.map (Vl g)=ts.map some->Q6 Z.T l i ts=true->∀(j:Nat)(b:cx),l[j]?=some b->∃d,c[j]?=some d/\Cb Z b d/\(Z.T.NG (i+j)=true->rR m b.name=some (.ref d)):=by
 induction l with
 |nil=>exact λ_ _ _ j b e=>nE e
 |cons f l n=>
  intro c i ts h p k j b e;cases c with
  |nil=>exact ff h
  |cons a c=>
   cases ts with
   |nil=>exact ff k
   |cons t ts=>
    have q:=Gb p;induction j with
    |zero=>exact sJ e▸⟨a,rfl,Te hs (aL h) q.1<|aL k,λq=>PL (aL<|aR h) (λz=>iB<|(bN z).symm.trans q) C2⟩
    |succ j=>exact kN i j▸n (aR<|aR h) q.2 (aR k) j b e
omit hs in
theorem Dk{C:Addr}{x:Str}{c:Nat}(h:RZ Z.T Z.FA Z.K C x c=true):∃b d,Z.FA[c]?=some b/\Z.T.FT[c]?=some d/\findIn Z.K (.ref C) x=some (some<|.ref b)/\typeIn Z.K (.ref b)=some (.type "function"):=oE h λb i h=>oE h λd f h=>⟨b,d,i,f,BD<|aL h,oE (aR h) λv e h=>e.trans<|congrArg _<|dT h⟩
omit hs in
theorem JM{C:Addr}(h:Qw Z.T Z.K C=true):Kn Z C:=⟨oE (aL h) λc e h=>⟨c,e,h⟩,BD (aL (aR h)),Bh (aL (aR (aR h))),BD (aL (aR (aR (aR h)))),aL (aR (aR (aR (aR h)))),aL (aR (aR (aR (aR (aR h))))),λx b=>have k:=bv.mp (aR (aR (aR (aR (aR (aR h)))))) x b;⟨Bh (aL k),Bh (aL (aR k)),bN (aR (aR k))⟩⟩
omit hs in
theorem OA{q:List DictEntry}{l:List QJ}:∀{i:List Addr},XK Z.T Z.FA Z.K q l i=true->∀c:Nat,(∀C,i[c]?=some C->Kn Z C)/\∀d,l[c]?=some d->∃C,i[c]?=some C/\rR q d.name=some (.ref C)/\keepIn Z.K (.ref C)=true/\(∃b m,Z.FA[d.init]?=some b/\Z.T.FT[d.init]?=some m/\findIn Z.K (.ref C) "__init__"=some (some<|.ref b)/\typeIn Z.K (.ref b)=some (.type "function"))/\∀(x:Str)(j:Nat),d.ms.lookup x=some j->∃b m,Z.FA[j]?=some b/\Z.T.FT[j]?=some m/\findIn Z.K (.ref C) x=some (some<|.ref b)/\typeIn Z.K (.ref b)=some (.type "function"):=by
 induction l with
 |nil=>exact λ{i} h c=>⟨λC e=>nE<|(congrArg (λl:List Addr=>l[c]?)<|Uw h).symm.trans e,λd e=>nE e⟩
 |cons f l r=>
  intro i h c;cases i with
  |nil=>exact ff h
  |cons a i=>
   have p:=aR h;have n:=aR p;have k:=aR n;induction c with
   |zero=>exact⟨λC e=>sJ e▸JM (aL<|aR k),λd e=>sJ e▸⟨a,rfl,C2<|aL h,aL p,Dk<|aL n,λx j e=>Dk<|bv.mp (aL k) (x,j)<|zd e⟩⟩
   |succ c=>exact r (aR<|aR k) c
theorem Jw{ts}(p:CHX g Z.T Z.FA Z.CA Z.K=true)(J:Z.FA.map (Vl g)=ts.map some)(k:Q6 Z.T Z.T.FT 0 ts=true)(F:Z.K.In Z.dD)(l:Z.dD.NoLimit)(d:Z.dD.Ns mainGlobals Z.mg)(f:Z.dD.Ns builtinsNs Z.mb):lu Z/\wd Z:=
 have w:=aR p;have u:=aR w;have t:=aR u;have s:=aR t;have r:=aR s;have i:=HY hs d<|aL p
 have D:=NZ hs (aR r) J k;have E:=OA<|aL r
 ⟨⟨l,d,f,λx v e=>oE (bv.mp (aL t) (x,v) (zd e)) λy q z=>⟨y,(i x).symm.trans q,Cn hs z⟩,λb=>have z:=bv.mp (aL s) b (by induction b<;>simp);⟨(i _).symm.trans<|VY<|aL z,oE (aR z) λv e h=>(HY hs f (aL w) _).symm.trans<|e.trans<|congrArg _<|dT h⟩,F,(Pi.mp (aL u)).elim λo q=>⟨o,hs _ _ q⟩,λc C e=>(E c).1 C e⟩,⟨λj m e=>(D j m e).elim λA q=>⟨A,q.1,q.2.1⟩,λj m A n e I=>(D j m e).elim λH q=>(i _).symm.trans (sJ (q.1.symm.trans I)▸q.2.2 ((ss j).symm▸n)),λc L e=>((E c).2 L e).elim λC q=>⟨C,q.1,(i _).symm.trans q.2.1,q.2.2⟩⟩⟩
end
def YH(h:Heap):Prop:=∃g:Addr->Option Obj,(∀a o,g a=some o->h.get? a=some o)/\CHK g=true/\Zl.map (Vl g)=DF.map some
theorem YH.keeps (y:YH h) (k:∀b o,h.get? b=some o->q.get? b=some o):YH q:=let⟨g,a,b⟩:=y;⟨g,λc o e=>k _ _<|a c o e,b⟩
end Mine.Internal.Hd
end
section
open PySem PySem.W PyProof.Rows
namespace Mine.Internal.Hd
section
set_option maxHeartbeats 0
noncomputable abbrev P0:lH:=PySem.Challenge.pw_xm0541_01
def Tp(w:gL)(n:Nat)(s:gq)(t:Gu)(r:gq):Prop:=topRun treeTable P0 w 11 (some<|.ref 6) n s.abs t=some r.abs
theorem CK(a:through t=true):Tp w (n+1) s t s:=by unfold Tp topRun;rw[a]
theorem jZ(a:through t=false)(b:stepOk 11 (some<|.ref 6) t=true)(d:stepT (denote treeTable) P0 w s t=some (f,c))(e:Tp w n f c r):Tp w (n+1) s t r:=by unfold Tp topRun;rw[a,b,stepT_spec d];exact e
def tr0(P:Params):BT:=jE (boot_o_0 P) (jE (boot_o_1 P) (jE (boot_o_3 P) (jE (boot_o_7 P) ly ly) ly) (jE (boot_o_5 P) (jE (boot_o_9 P) ly ly) ly)) (jE (boot_o_2 P) (jE (boot_o_4 P) (jE (boot_o_8 P) ly ly) ly) (jE (boot_o_6 P) (jE (boot_o_10 P) ly ly) ly))
theorem LC(P):absHeap (tr0 P) 11 {}=fu P:=by kernel_rfl
theorem VB(w:gL):((fu w.params).isNs mainGlobals&&(qp []:Array GenState).size==0,(fu w.params).objs.size,(fu w.params).nsMap mainGlobals "__annotations__")=(true,11,some<|.ref 6):=by kernel_rfl
abbrev Gi(w:gL)(os:Gw):gq:=⟨tr0 w.params,11,{},qp [],sL,wj,os⟩
theorem op0:opening P0=plainProg P0.main.scope.names:=by kernel_rfl
theorem fn0(s):fenceModules? P0 s=some s:=by kernel_rfl
end
section
set_option maxHeartbeats 0
def D0:Code->Sem bQ:=Fast.tw11892475500146522536 Fast.tw14364793385576792824
def stT:(Code->Sem bQ)->lH->gL->gq->Gu->Option (gq×Gu):=Fast.tw10156331382660048174
abbrev Go:=gq->Gu->Option gq
abbrev Mo:=gL->gq->Code->Pos->List Frame->Go->Option gq
theorem QI:D0=denote treeTable:=by unfold D0;rw[<-Fast.te11892475500146522536,<-Fast.te14364793385576792824]
theorem Rf:stT=stepT:=Fast.te10156331382660048174.symm
noncomputable def PM(t:Gu):Bool:=stepOk 11 (some<|.ref 6) t
def mO(a:Sem bQ):Mo:=λw s c q B b=>iP (iP none (hZ none (λz=>b z.1 z.2)<|stT D0 P0 w s ⟨a,c,q,B⟩)<|Fast.tw6613529449190102663 11 (some<|.ref 6) ⟨a,c,q,B⟩) (some s)<|through ⟨a,c,q,B⟩
def PY(f:Flow):Mo:=λ_ s _ _ B a=>List.rec (some s) (λb r _=>Frame.rec (λk _ _ _ c p _=>a s ⟨k<|.ok f,c,p,r⟩) (λ_ _ _ _ _=>none) b) B
noncomputable def mGo(k:Unit->Sem bQ):Mo:=λ_ s c q B a=>a s ⟨k (),c,q,B⟩
noncomputable def mAt(p:Pos)(k:Unit->Sem bQ):Mo:=λ_ s c _ B a=>a s ⟨k (),c,p,B⟩
def PX(a:Addr)(k:Obj->Sem bQ):Mo:=λ_ s c q B d=>lK (λT n _ _ _ _ _=>iP none (hZ none (λo=>hZ none (λb=>d s ⟨k b,c,q,B⟩)<|alive o)<|T.get a)<|SL a n) s
noncomputable def aae(a:Addr):Bool:=bx 11 a||a==mainNs||a==cStatics||(some<|xU 6)==some (.ref a)
def V7(a:Addr)(f:Obj->Obj)(k:Unit->Sem bQ):Mo:=λ_ s c q B b=>iP none (lK (λT n l g d t os=>iP none (hZ none (λo=>hZ none (λ_=>b ⟨T.set a f,n,l,g,d,t,os⟩ ⟨k (),c,q,B⟩)<|alive o)<|T.get a)<|SL a n) s)<|aae a
def V8(o:Obj)(k:Addr->Sem bQ):Mo:=λ_ s c q B a=>lK (λT n l g d t os=>iP none (a ⟨T.ins n o,n+1,l,g,d,t,os⟩ ⟨k n,c,q,B⟩) ((T.ins n o).get n).isSome) s
def mIf(a:Addr)(k:Option Obj->Sem bQ):Mo:=λ_ s c q B b=>lK (λT n _ _ _ _ _=>iP (b s ⟨k none,c,q,B⟩) (hZ none (λo=>b s ⟨k<|alive o,c,q,B⟩)<|T.get a)<|SL a n) s
def Sf(k:Tok->Sem bQ):Mo:=λ_ s c q B a=>lK (λT n l g d t os=>a ⟨T,n,l,g,d,t+1,os⟩ ⟨k t,c,q,B⟩) s
def ZU(k:Setting->Sem bQ):Mo:=λw s c q B a=>a s ⟨k ⟨P0,w.params⟩,c,q,B⟩
set_option backward.match.sparseCases true in
noncomputable def Sy(c code:Code)(l:List Value):List Value:=match c,code with
 |.builtin _ a,_=>unmarked a.refs
 |.call f a,.builtin .. |.call f a,.call ..=>unmarked (if l.contains borrowed then a.refs else f::a.refs)
 |_,_=>[]
def Ij(c:Code)(h:Option Value)(gd:Bool)(l:List Value)(k:Result->Sem bQ):Mo:=λ_ s code q B a=>a s ⟨D0 c,c,q,.ret k h gd l code q (Sy c code l)::B⟩
def one(b:Sem bQ):Mo:= @Sem.rec bQ (λ_=>Mo) (λf=>bQ.rec (λf=>PY f) (λc=>mO<|.pure<|.again c) f) (λe=>mO<|.raise e) (λx=>mO<|.unsupported x) (λx=>mO<|.finish x) (λ_ k _=>mGo k) (λp k _=>mAt p k) (λa _ k _=>PX a k) (λa _ f k _=>V7 a f k) (λo k _=>V8 o k) (λa k _=>mIf a k) (λ_ k _=>mGo k) (λa k _=>mO<|.register a k) (λk _=>Sf k) (λk _=>ZU k) (λx n k _=>mO<|.choose x n k) (λr l k _=>mO<|.os r l k) (λc h g l k _=>Ij c h g l k) (λo k _=>mO<|.handled o k) (λc k _=>mO<|.newGen c k) (λg k _=>mO<|.genState g k) (λg r l k _=>mO<|.resume g r l k) (λv g l k _=>mO<|.yield v g l k) (λk _=>mO<|.stack k) (λc k _=>mO<|.fork c k) (λk _=>mO<|.thread k) (λa x y l k _=>mO<|.await a x y l k) b
def qG(w:gL)(n:Nat):Go:=Nat.rec (λ_ _=>none) (λ_ b s t=>Gu.rec (λa c q B=>one a w s c q B b) t) n
theorem Ut{a:Type}{x r}{C:Prop}(h: @iP (λ_=>Option a) none x b=some r)(k:b=true->x=some r->C):C:=by induction b with
 |false=>exact nE h
 |true=>exact k rfl h
theorem VN{a:Type}{x y r}{C:Prop}(h: @iP (λ_=>a) y x b=r)(k:b=true->x=r->C)(c:b=false->y=r->C):C:=by induction b with
 |false=>exact c rfl h
 |true=>exact k rfl h
theorem Ro{b a:Type}{o f r}{C:Prop}(h: @hZ a (λ_=>Option b) none f o=some r)(k:∀x,o=some x->f x=some r->C):C:=by induction o with
 |none=>exact nE h
 |some x=>exact k x rfl h
section
variable{w:gL} {n:Nat} {s r:gq} {cur:Sem bQ} {c:Code} {q:Pos} {B:List Frame} {a m:Addr} {p:Option Value} {os:Gw} {o:Obj}
theorem stL(h:SL a m=true)(f:T.get a=some o)(e:alive o=some b):stepT D P w ⟨T,m,l,g,d,t,os⟩ ⟨.load a p k,c,q,B⟩=some (⟨T,m,l,g,d,t,os⟩,⟨k b,c,q,B⟩):=by simp only[stepT,h,f,e]
theorem stU(h:SL a m=true)(e:T.get a=some o)(b:alive o=some i):stepT D P w ⟨T,m,l,g,d,t,os⟩ ⟨.update a p f k,c,q,B⟩=some (⟨T.set a f,m,l,g,d,t,os⟩,⟨k (),c,q,B⟩):=by simp only[stepT,h,e,b]
theorem stA(b:((T.ins m o).get m).isSome=true):stepT D P w ⟨T,m,l,g,d,t,os⟩ ⟨.alloc o k,c,q,B⟩=some (⟨T.ins m o,m+1,l,g,d,t,os⟩,⟨k m,c,q,B⟩):=by simp only[stepT,b]
theorem stI(e:SL a m=true)(b:T.get a=some o):stepT D P w ⟨T,m,l,g,d,t,os⟩ ⟨.loadIfAlive a k,c,q,B⟩=some (⟨T,m,l,g,d,t,os⟩,⟨k<|alive o,c,q,B⟩):=by simp only[stepT,e,b]
theorem stN(b:SL a m=false):stepT D P w ⟨T,m,l,g,d,t,os⟩ ⟨.loadIfAlive a k,c,q,B⟩=some (⟨T,m,l,g,d,t,os⟩,⟨k none,c,q,B⟩):=by simp only[stepT,b]
variable(ih:∀{s:gq}{t:Gu},qG w n s t=some r->Tp w n s t r)
include ih
theorem HN(h:mO cur w s c q B (qG w n)=some r):Tp w (n+1) s ⟨cur,c,q,B⟩ r:=by unfold mO at h;rw[<-Fast.te6613529449190102663,QI,Rf]at h;exact VN h (λe h=>sJ h▸CK e) λe h=>Ut h λd h=>Ro h λz b h=>jZ e d b<|ih h
theorem Wo{k:Obj->Sem bQ}(h:PX a k w s c q B (qG w n)=some r):Tp w (n+1) s ⟨.load a p k,c,q,B⟩ r:=by induction s;exact Ut h λe h=>Ro h λo d h=>Ro h λf b h=>jZ (bp _) rfl (stL e d b)<|ih h
theorem Vc{k:Unit->Sem bQ}{f:Obj->Obj}(h:V7 a f k w s c q B (qG w n)=some r):Tp w (n+1) s ⟨.update a p f k,c,q,B⟩ r:=by induction s;exact Ut h λe0 h=>Ut h λe h=>Ro h λo d h=>Ro h λg b h=>jZ (bp _) e0 (stU e d b)<|ih h
theorem XY{k:Addr->Sem bQ}(h:V8 o k w s c q B (qG w n)=some r):Tp w (n+1) s ⟨.alloc o k,c,q,B⟩ r:=by induction s;exact Ut h λb h=>jZ (bp _) rfl (stA b)<|ih h
theorem Xd{k:Option Obj->Sem bQ}(h:mIf a k w s c q B (qG w n)=some r):Tp w (n+1) s ⟨.loadIfAlive a k,c,q,B⟩ r:=by induction s;exact VN h (λb h=>Ro h λo d h=>jZ (bp _) rfl (stI b d)<|ih h) λb h=>jZ (bp _) rfl (stN b)<|ih h
theorem XD{f:Flow}(h:PY f w s c q B (qG w n)=some r):Tp w (n+1) s ⟨.pure<|.done f,c,q,B⟩ r:=by
 induction B with
 |nil=>exact sJ h▸CK rfl
 |cons d b=>induction d with
  |gen=>exact nE h
  |ret k _ _ _ c p _=>exact jZ rfl rfl rfl<|ih h
theorem XM{g:Code}{e:Option Value}{f:Bool}{b:List Value}{d:Result->Sem bQ}(h:Ij g e f b d w s c q B (qG w n)=some r):Tp w (n+1) s ⟨.call g e f b d,c,q,B⟩ r:=by unfold Ij at h;rw[QI]at h;exact jZ (bp _) rfl rfl<|ih h
end
theorem L7:∀{s t},qG w n s t=some r->Tp w n s t r:=by
 induction n with
 |zero=>exact λh=>nE h
 |succ n a=>
  intro s t h;obtain⟨b,c,q,B⟩:=t;induction b with
  |pure f=>induction f with
   |again d=>exact HN a h
   |done f=>exact XD a h
  |rule=>exact jZ (bp _) rfl rfl<|a h
  |«at»=>exact jZ (bp _) rfl rfl<|a h
  |point=>exact jZ (bp _) rfl rfl<|a h
  |fresh=>exact jZ (bp _) rfl rfl<|a h
  |ask=>exact jZ (bp _) rfl rfl<|a h
  |call=>exact XM a h
  |load=>exact Wo a h
  |loadIfAlive=>exact Xd a h
  |alloc=>exact XY a h
  |update=>exact Vc a h
  |_=>exact HN a h
end
section
set_option maxHeartbeats 0
def gT(T:BT)(n:Nat)(a:Addr):Option Obj:=iP none (hZ none (λo=>alive o)<|T.get a)<|SL a n
def q0:lH:=PySem.W.view P0 [211]
def kW:List Str:=P0.boundNames.filter λk=>k !=jv "law"
noncomputable def sV(s:List Str):List Str->Bool:=s.rec (λks=>ks.isEmpty) λn _ a ks=>ks.casesOn true λk t=>bif kP k n then a t else a ks
theorem LU{s:List Str}:∀{ks},sV s ks=true->∀x∈ks,x∈s:=by
 induction s with
 |nil=>exact λh x a=>Uw h▸a
 |cons n s b=>
  intro ks h;cases ks with
  |nil=>exact λ_ h=>nomatch h
  |cons k t=>
   have h:(bif kP k n then sV s t else sV s (k::t))=true:=h;induction q:kP k n with
   |true=>rw[q]at h;exact List.forall_mem_cons.mpr ⟨oX q▸gv,λx a=>cD _<|b h x a⟩
   |false=>rw[q]at h;exact λx a=>cD _<|b h x a
def nmB(h:Heap):Bool:=h.isNs mainGlobals&&sV (startupNames++P0.boundNames) (h.nsKeys mainGlobals)
theorem RM{h:Heap}(k:nmB h=true):namesBound P0 h=true:=sB.mpr ⟨aL k,bv.mpr λx a=>FM.mpr<|(TD.mp<|LU (aR k) x a).imp wf.mpr wf.mpr⟩
@[irreducible] noncomputable def IG (w : gL) (z : gq) : Bool := nmB z.abs.heap && (staticsOk [] (fu w.params) z.abs.heap && (gensDone z.abs && laidKept (fu w.params) z.abs.heap))
@[irreducible] noncomputable def rn (b : Bool) (w : gL) (os : Gw) : Option gq := qG (w.withFollow "special-get-raises" b) 9000 (Gi w os) (topStub P0)
@[irreducible] noncomputable def sn (z : gq) := Yh q0 kW [] (λ_ => true) true z.abs
def vw(w:gL)(z:gq):=(sn z,IG w z,CHK<|gT z.tree z.n,Zl.map<|Vl<|gT z.tree z.n)
def gd:=(openGood q0 kW,true,true,DF.map some)
theorem yZ:importedModules P0.main.body=[]:=by kernel_rfl
end
section
set_option maxHeartbeats 0
theorem Iw:PySem.Challenge.rw_xm0541_01.wellSaid=true:=by
 rw[Yl];delta Yg;delta Yj;delta Yi;delta Yk
 iterate 38 refine look_both ?_ (by decide+kernel)
 decide+kernel
theorem XT:P0.bare:=⟨rfl,rfl,rfl,rfl,rfl,by
 delta lH.tablesWhole TablesWhole.wProgram;rw[Fast.te6116379765354995101,show TablesWhole.holds=_ from congrArg (QM · (λ_ _ _ k=>k) (λ_=>true) true false and)<|funext λc=>funext λn=>funext λ_=>congrArg u9 P4.symm]
 decide+kernel⟩
theorem VF(w:gL):(λos=>(rn false w os).map<|vw w)=λ_=>some gd:=by kernel_rfl
theorem VE(w:gL):(λos=>(rn true w os).map<|vw w)=λ_=>some gd:=by kernel_rfl
end
section
set_option maxHeartbeats 100000
theorem Ta{T:BT}{n:Nat}{l:Life}{a:Addr}{o:Obj}(h:gT T n a=some o):(absHeap T n l).get? a=some o:=Ut h λc h=>Ro h λx b h=>(abs_get (io c) b).trans h
theorem Rp(b:Bool)(w:gL)(os:Gw):∃z,rn b w os=some z/\openSeen q0 kW [] (λ_=>true) true z.abs=openGood q0 kW/\IG w z=true/\YH z.abs.heap:=by
 have h:(rn b w os).map (vw w)=some gd:=match b with|false=>congrFun (VF w) os|true=>congrFun (VE w) os
 obtain⟨z,e,g⟩:=eL.mp h;have d:=rp g;have c:=rp d.2;have f:=rp c.2;refine⟨z,e,?_,c.1,gT z.tree z.n,λa o=>Ta,f⟩;rw[<-d.1,sn,Fast.te4187177175401517315]
theorem Pt(b:Bool)(w:gL)(os:Gw):(topFrom treeTable P0 (w.withFollow "special-get-raises" b) 9000 ⟨fu w.params,qp [],sL,wj,os⟩).map (λs=>(openSeen q0 kW (importedModules P0.main.body) (λ_=>true) true s,YH s.heap))=some (openGood q0 kW,True):=by
 obtain⟨z,e,l,a,k⟩:=Rp b w os;obtain⟨f,d,c⟩:_/\_/\_:=by simpa only[Prod.mk.injEq]using VB w
 have e:qG (w.withFollow "special-get-raises" b) 9000 (Gi w os) (topStub P0)=some z:=by unfold rn at e;exact e
 have r:topRun treeTable P0 _ 11 (some<|.ref 6) 9000 (Gi w os).abs _=some z.abs:=L7 e
 have m:(Gi w os).abs=⟨fu w.params,qp [],sL,wj,os⟩:=by unfold Gi gq.abs;rw[LC]
 rw[m]at r;unfold IG at a;have j:=aL<|aR a
 have i:=RM<|aL a
 have h:=aL<|aR<|aR a
 have g:=aR<|aR<|aR a
 have:topFrom treeTable P0 (w.withFollow "special-get-raises" b) 9000 ⟨fu w.params,qp [],sL,wj,os⟩=some z.abs:=by
  unfold topFrom;dsimp only;rw[f,d,c,r,yZ];show(match staticsOk [] (fu w.params) z.abs.heap&&namesBound P0 z.abs.heap&&gensDone z.abs&&laidKept (fu w.params) z.abs.heap with|true=>_|false=>_)=_
  rw[j,i,h,g];rfl
 rw[this,iN,yZ,l,eq_true k]
theorem Wm:LeftO P0 q0 kW (λ_=>true) (λs=>YH s.heap) (λ_=>True) 9000:=LeftO.of_split "special-get-raises" λw=>by
 obtain⟨s,e,b⟩:=eL.mp<|boot_open (N:=9000) op0 (by decide) fn0 w
 obtain⟨h,a,d,k,os⟩:=s;obtain⟨rfl,rfl,rfl,rfl⟩:h=fu w.params/\a=qp []/\d=sL/\k=wj:=by simpa using b
 rw[e,iN,Pt,Pt]
end
end Mine.Internal.Hd
end
section
open PySem (Str Operator CmpOp PyData)
namespace Mine.Internal
@[irreducible] noncomputable def EV (n : Nat) : iU := ev FT CT n
theorem dg(n):EV n=ev FT CT n:=by unfold EV;rfl
theorem oz(n)(e)(s):(EV<|n+1).e e s=nG (EV n) CT e s:=by rw[dg,dg];rfl
theorem Jy(n)(e)(s):(EV<|n+1).b e s=s7 (EV n) e s:=by rw[dg,dg];rfl
theorem xt(n)(b)(s):(EV<|n+1).iT b s=ia (EV n) b s:=by rw[dg,dg];rfl
theorem Xv(n)(i)(a)(g):(EV<|n+1).call i a g=lT (EV n) FT i a g:=by rw[dg,dg];rfl
def qG(f:iU)(a:cx)(b:List RV)(g:List GO):Option (RV×List (Option RV)×List GO):=if b.length<=a.np/\a.np<=b.length+a.kI.length then
  (f.iT a.body ⟨b.map some++(a.kI.drop<|a.kI.length+b.length - a.np).map (λx=>some<|.v x)++UF (a.ns - a.np) none,g⟩).bind λy=>pQ b y.2 y.1
  else none
theorem sq(n)(i)(a)(b)(g)(h:FT[i]?=some a):(EV<|n+1).call i b g=qG (EV n) a b g:=(Xv ..).trans<|bI h rfl
noncomputable def rz:Str:=⟨#[114,111,119,115]⟩
noncomputable def Bb:Str:=⟨#[105,110,100,101,120]⟩
noncomputable def L5:Str:=⟨#[98,111,117,110,100,115]⟩
noncomputable def EN:Str:=⟨#[100,101,102,97,117,108,116,115]⟩
def LO:List Str:=[rz,Bb,⟨#[100,101,99,108,115]⟩,L5,EN,⟨#[110,97,109,101,115]⟩,⟨#[111,114,105,103,105,110,115]⟩,⟨#[114,101,110,97,109,101,100]⟩,⟨#[115,104,97,112,105,110,103]⟩,⟨#[112,117,116,116,105,110,103]⟩]
noncomputable def LN:List PV:=[.aZ 2,.aZ 3,.aZ 4,.aZ 5,.aZ 6,.aZ 7,.aZ 8,.aZ 9,.int 0,.int 0]
noncomputable def Xj:List Str:=[⟨#[116,97,98]⟩,⟨#[100,101,101,112]⟩,⟨#[109,111,115,116,95,114,111,117,110,100,115]⟩,⟨#[109,111,115,116,95,100,101,101,112]⟩,⟨#[108,105,98]⟩]
noncomputable def Xh:List PV:=[.aZ 0,.int 0,.int 200,.int 40,.none]
noncomputable def ids(R:List PV):List PV:=(Db R.length).map λ(i:Nat)=>.int (i:Int)
def G(R:List PV)(L:List GO):List GO:=.inst 0::.iK LO LN::.list R::.dict R (ids R)::.list [.none]::.list [.int (-1)]::.list [.int (-1)]::.list [.str ⟨#[84]⟩]::.dict [] []::.dict [] []::.inst 1::.iK Xj Xh::L
theorem fU{i:Nat}(h:l[i]?=some x):idx l (i:Int)=some i:=mI h rfl
theorem bj{t:Nat}(h:R[t]?=some x):gy (G R L) (ak 2) (.int (t:Int))=some x:=bI (fU h) h
theorem jH{k:Nat}(h:l[k]?=some x):gy g (dQ l) (.int (k:Int))=some x:=bI (fU h) h
section
variable{e:Ex}
def nv(e:Ex):Bool:=e.var?.isNone
theorem tA{e}(h:nv e=true):e.var?=none:=cq.mp h
theorem qA{g z y x}(c:cA g z=none)(b:uj g z=some d)(a:(decide (d.1.length<az)&&keyOk z y d.1)=true):sW g z y x=some (.md none (upd d.1 d.2 y x).1 (upd d.1 d.2 y x).2):=by rw[sW,c];exact bI b<|if_pos a
theorem EE{g z x}(c:cA g z=some l)(b:¬j<0)(a:idx l j=some m):sW g z (.int j) x=some (.ml none<|l.set m x):=by rw[sW,c];exact bI rfl<|(if_pos<|eQ.mp b).trans<|mI a rfl
theorem N8:(EV<|n+1).e (.c u) s=some (.v u,s):=(oz ..).trans rfl
theorem eI(h:a[i]?=some (some x)):St.get ⟨a,g⟩ i=some x:=(congrArg Option.join h).trans rfl
theorem Qs(h:a[i]?=some (some<|.v u)):(EV<|n+1).e (.v i) ⟨a,g⟩=some (.v u,⟨a,g⟩):=(oz ..).trans<|mI (eI h) rfl
theorem Ml(h:a[i]?=some (some x)):gS (EV n) (.v i) ⟨a,g⟩=some (.pl i,⟨a,g⟩):=mI (eI h) rfl
theorem Gk(b:nv e=true)(h:(EV n).e e s=some (x,a)):gS (EV n) e s=some (.rv x,a):=by rw[gS,tA b];exact mI h rfl
theorem uh(k:gS (EV n) a s=some (p,d))(j:gS (EV n) b d=some (q,c))(i:p.aD c=some x)(h:q.aD c=some y)(f:hK c.g op x y=some z):(EV<|n+1).e (.bin op a b) s=some (z,c):=(oz ..).trans<|bI k<|bI j<|bI i<|bI h<|mI f rfl
theorem Ts(h:(EV n).b c s=some (true,d))(f:(EV n).e a d=some r):(EV<|n+1).e (.ite c a b) s=some r:=(oz ..).trans<|bI h<|(if_pos rfl).trans f
theorem Tu(h:(EV n).b c s=some (false,d))(f:(EV n).e b d=some r):(EV<|n+1).e (.ite c a b) s=some r:=(oz ..).trans<|bI h<|(if_neg xz).trans f
noncomputable def pt:Ex->Bool
 |.not _|.and _|.or _|.ite .. |.cmp .. |.bad|.prom _=>false
 |_=>true
theorem b_e(c:pt e=true)(h:gS (EV n) e s=some (p,a))(f:p.aD a=some x)(d:cF a.g x=some t):(EV<|n+1).b e s=some (t,a):=by refine(Jy ..).trans ?_;cases e<;>first|exact ff c|exact bI h<|bI f<|mI d rfl
theorem qF(h:(EV n).e e s=some (x,f))(t:gS (EV n) o f=some (p,c))(r:(EV n).e k c=some (y,a))(q:p.aD a=some z)(m:cA a.g z=none)(l:uj a.g z=some d)(j:(decide (d.1.length<az)&&keyOk z y.eJ d.1)=true)(i:p.store a (.md none (upd d.1 d.2 y.eJ x.eJ).1 (upd d.1 d.2 y.eJ x.eJ).2)=some b):cH (EV n) (.asg (.sub o k) e) s=some (.dK,b):=bI h<|mI (bI t<|bI r<|bI q<|bI (qA m l j) i) rfl
theorem dk{s s'}{r:Option d×c}(h:a u s=some (none,s'))(b:bb a l s'=some r):bb a (u::l) s=some r:=bI h b
theorem qQ{s b:c}{f:d}(h:a u s=some (some f,b)):bb a (u::l) s=some (some f,b):=bI h rfl
end
inductive Ok{a:Type}(F:iU->Option a)(r:a):Prop
 |mk (n:Nat) (h:∀k,F (EV<|n+k)=some r)
theorem Ok.bind {G:iU->u->Option q} (h:Ok F x) (k:Ok (λf=>G f x) r):Ok (λf=>(F f).bind<|G f) r:=by obtain⟨n,h⟩:=h;obtain⟨m,k⟩:=k;exact⟨n+m,λj=>bI ((congrArg (λi=>F<|EV i)<|wn n m j).trans<|h<|m+j)<|(congrArg (λi=>G (EV i) x) (by rw[wn,Kv])).trans<|k<|n+j⟩
theorem Ok.pure:Ok (λ_=>some r) r:=⟨0,λ_=>rfl⟩
theorem Ok.map {G:iU->u->q} (h:Ok F x) (k:∀f,G f x=r):Ok (λf=>(F f).map<|G f) r:=by obtain⟨n,h⟩:=h;exact⟨n,λj=>mI (h j)<|k _⟩
theorem Ok.congr {r} (h:Ok F r) (e:∀f,q f=F f):Ok q r:=by obtain⟨n,h⟩:=h;exact⟨n,λj=>(e _).trans<|h j⟩
theorem Ok.up {r} (h:Ok F r) (e:∀n,q (EV<|n+1)=F (EV n)):Ok q r:=by obtain⟨n,h⟩:=h;exact⟨n+1,λj=>(congrArg (λi=>q<|EV i)<|AT n 1 j).trans<|(e _).trans<|h j⟩
theorem Ok.of (n) (h:∀k,F (EV<|k+n)=some r):Ok F r:=⟨n,λk=>(congrArg (λi=>F<|EV i)<|wp n k).trans<|h k⟩
theorem Ok.one {x:u} {z:q} (h:Ok F x) (k:∀f,F f=some x->H f=some z):Ok H z:=by obtain⟨n,h⟩:=h;exact⟨n,λj=>k _<|h j⟩
theorem Ok.two {G} {x:D} {y:C} {z:u} (h:Ok F x) (q:Ok G y) (k:∀f,F f=some x->G f=some y->H f=some z):Ok H z:=by obtain⟨n,h⟩:=h;obtain⟨m,q⟩:=q;exact⟨n+m,λj=>k _ ((congrArg (λi=>F<|EV i)<|wn n m j).trans<|h<|m+j)<|(congrArg (λi=>G<|EV i) (by rw[wn,Kv])).trans<|q<|n+j⟩
abbrev ai(b:Nat)(d:List RV)(g:List GO)(x:RV)(c:List (Option RV))(a:List GO):Prop:=Ok (λf=>f.call b d g) (x,c,a)
structure TI where
 k:Nat
 x:RV
 s:St
 f:Fl
abbrev Tp:=List TI
noncomputable def td:TI:=⟨0,.v .none,⟨[],[]⟩,.dK⟩
noncomputable def tv(x:RV):TI:=⟨0,x,⟨[],[]⟩,.dK⟩
def tb(b:Bool):TI:=tv<|dj b
noncomputable def tx(x:RV)(s:St):TI:=⟨1,x,s,.dK⟩
noncomputable def tm(x:RV)(s:St):TI:=⟨2,x,s,.dK⟩
noncomputable def ts(f:Fl)(s:St):TI:=⟨3,.v .none,s,f⟩
noncomputable def tc(x:RV)(a:List (Option RV))(g:List GO):TI:=⟨4,x,⟨a,g⟩,.dK⟩
noncomputable def tl(f:Fl)(s:St):TI:=⟨5,.v .none,s,f⟩
noncomputable def tt(b:Bool)(s:St):TI:=⟨6,dj b,s,.dK⟩
def PV.ZN (p:PV):Option PV:=bif p.W9 then sw else some p
def RV.ZN (x:RV):Option RV:=bif x.Bz then none else some x
def TI.b? (i:TI):Option Bool:=i.x.val?.bind PV.bool?
def TI.v? (i:TI):Option RV:=i.x.ZN
def TI.i? (i:TI):Option Int:=i.x.int?
def TI.p? (i:TI):Option PV:=i.x.val?.bind PV.ZN
noncomputable def TI.at (n:Nat) (i:TI):Option (RV×St):=bif co i.k n then some (i.x,i.s)else none
noncomputable def TI.fl (n:Nat) (i:TI):Option (Fl×St):=bif co i.k n then some (i.f,i.s)else none
def TI.bs (i:TI):Option (Bool×St):=bif co i.k 6 then i.b?.map λb=>(b,i.s)else none
noncomputable def lFl:Option Fl×St->Fl×St:=λy=>(y.1.getD .dK,y.2)
noncomputable def TI.c? (i:TI):Option (RV×List (Option RV)×List GO):=bif co i.k 4 then some (i.x,i.s.r,i.s.g)else none
section
variable{α:Type}
def lV(o:Option α)(K:α->Prop):Prop:=match o with
 |some x=>K x
 |none=>False
def prim(b:TI->Option α)(o:Option α)(a:Tp)(K:α->Tp->Prop):Prop:=match a with
 |[]=>lV o λx=>K x []
 |i::a=>match b i with
  |some x=>o=some x/\K x a
  |none=>lV o λx=>K x a
def told(b:TI->Option α)(F:iU->Option α)(a:Tp)(K:α->Tp->Prop):Prop:=match a with
 |[]=>False
 |i::a=>match b i with
  |some x=>Ok F x/\K x a
  |none=>False
def xy(b:TI->Option α)(F:iU->Option α)(a:Tp)(K:α->Tp->Prop)(C:Prop):Prop:=match a with
 |[]=>C
 |i::a=>match b i with
  |some x=>Ok F x/\K x a
  |none=>C
inductive Ew(F:iU->Option α)(K:α->Tp->Prop):Prop
 |mk (x:α) (a:Tp) (h:Ok F x) (k:K x a)
theorem Ew.bind {G:iU->α->Option C} (h:Ew F K) (k:∀x tp,K x tp->Ew (λf=>G f x) Q):Ew (λf=>(F f).bind<|G f) Q:=by obtain⟨x,tp,h,u⟩:=h;obtain⟨y,tp,z,q⟩:=k x tp u;exact⟨y,tp,h.bind z,q⟩
theorem Ew.map {G:α->u} (h:Ew F λx q=>K (G x) q):Ew (λf=>(F f).map G) K:=by obtain⟨x,q,h,k⟩:=h;exact⟨G x,q,h.map λ_=>rfl,k⟩
theorem Ew.up {K} (h:Ew F K) (e:∀n,u (EV<|n+1)=F (EV n)):Ew u K:=by obtain⟨x,q,h,k⟩:=h;exact⟨x,q,h.up e,k⟩
theorem Ew.pure {K q} (k:K x q):Ew (λ_=>some x) K:=⟨x,q,.pure,k⟩
theorem Ew.opt {G:iU->α->Option q} (h:lV o K) (k:∀x,o=some x->K x->Ew (λf=>G f x) Q):Ew (λf=>o.bind<|G f) Q:=by
 induction o with
 |none=>exact bL h
 |some x=>exact k x rfl h
theorem Ew.E0 {G:α->q} (h:lV o λx=>Q (G x) tp):Ew (λ_=>o.map G) Q:=by
 induction o with
 |none=>exact bL h
 |some x=>exact .pure h
theorem wV(h:prim b o a K):∃x a,o=some x/\K x a:=by
 have f:∀{a:Tp},lV o (λx=>K x a)->∃x a,o=some x/\K x a:=λ{a} h=>by
  induction o with
  |none=>exact bL h
  |some x=>exact⟨x,a,rfl,h⟩
 induction a with
 |nil=>exact f h
 |cons i a=>
  delta prim at h;dsimp only at h;induction e:b i with
  |none=>rw[e]at h;exact f h
  |some x=>rw[e]at h;exact⟨x,a,h.1,h.2⟩
theorem Ew.prim {G:iU->α->Option D} (h:prim z o q K) (k:∀x q,K x q->Ew (λf=>G f x) Q):Ew (λf=>o.bind<|G f) Q:=by refine nF (wV h) λx q u C=>?_;subst u;exact k x q C
theorem Ew.ph {G:α->D} (h:Internal.prim z o q λx q=>Q (G x) q):Ew (λ_=>o.map G) Q:=by refine nF (wV h) λx q u C=>?_;subst u;exact .pure C
theorem Ew.told (h:told u F q K):Ew F K:=by
 induction q with
 |nil=>exact bL h
 |cons i q=>
  delta Internal.told at h;dsimp only at h;induction e:u i with
  |none=>rw[e]at h;exact bL h
  |some x=>rw[e]at h;exact⟨x,q,h.1,h.2⟩
theorem Ew.xy (h:xy u F q K C) (k:C->Ew F K):Ew F K:=by
 induction q with
 |nil=>exact k h
 |cons i q=>
  delta Internal.xy at h;dsimp only at h;induction e:u i with
  |none=>rw[e]at h;exact k h
  |some x=>rw[e]at h;exact⟨x,q,h.1,h.2⟩
end
abbrev KE:=RV×St->Tp->Prop
structure Wk where
 e:Ex->St->Tp->(RV×St->Tp->Prop)->Prop
 b:Ex->St->Tp->(Bool×St->Tp->Prop)->Prop
 iT:List Sm->St->Tp->(Fl×St->Tp->Prop)->Prop
section
variable(w:Wk)
def wO(e:Ex)(s:St)(a:Tp)(K:Op×St->Tp->Prop):Prop:=match e.var? with
 |some i=>lV (s.get i) λ_=>K (.pl i,s) a
 |none=>w.e e s a λx a=>K (.rv x.1,x.2) a
def wL:List Ex->St->Tp->(List PV×St->Tp->Prop)->Prop
 |[],s,a,K=>K ([],s) a
 |e::b,s,a,K=>w.e e s a λx a=>wL b x.2 a λy a=>K (x.1.eJ::y.1,y.2) a
def U5:List Ex->St->Tp->(List Op×St->Tp->Prop)->Prop
 |[],s,a,K=>K ([],s) a
 |e::b,s,a,K=>match e.var? with
  |some i=>lV (s.get i) λ_=>U5 b s a λz a=>K (.pl i::z.1,z.2) a
  |none=>w.e e s a λx a=>U5 b x.2 a λz a=>K (.rv (.v x.1.eJ)::z.1,z.2) a
def YE(b:Bool):List Ex->St->Tp->KE->Prop
 |[],_,_,_=>False
 |[e],s,a,K=>w.e e s a K
 |e::c,s,a,K=>w.e e s a λx a=>prim TI.b? (cF x.2.g x.1) a λt a=>bif t==b then K x a else YE b c x.2 a K
def YF(a:Bool):List Ex->St->Tp->(Bool×St->Tp->Prop)->Prop
 |[],s,c,K=>K (!a,s) c
 |e::d,s,c,K=>w.b e s c λx c=>bif x.1==a then K (a,x.2) c else YF a d x.2 c K
def wC(c:Nat)(a:List RV)(o:List Op×St)(b:Tp)(K:KE):Prop:=lV (sR a.length o.1 o.2) λz=>told TI.c? (λf=>f.call c (a++z.1) z.2.2.g) b λy b=>K (y.1,giveBack z.2.1 (y.2.1.drop a.length) {z.2.2 with g:=y.2.2}) b
def QT(e:Option Ex)(s:St)(a:Tp)(K:Option PV×St->Tp->Prop):Prop:=match e with
 |none=>K (none,s) a
 |some e=>w.e e s a λx a=>K (some x.1.eJ,x.2) a
def KD(e:Ex)(s:St)(d:Tp)(K:KE):Prop:=match e with
 |.c x=>K (.v x,s) d
 |.v i=>lV (s.get i) λx=>K (.v x.eJ,if x.LG then s.put i (some<|.v x.eJ)else s) d
 |.and f=>YE w false f s d K
 |.or f=>YE w true f s d K
 |.not e=>wO w e s d λp d=>lV (p.1.aD p.2) λx=>prim TI.b? (cF p.2.g x) d λt d=>K (dj<|!t,p.2) d
 |.neg e=>w.e e s d λx d=>lV x.1.int? λi=>K (ae (-i),x.2) d
 |.bin op a b=>wO w a s d λp d=>wO w b p.2 d λq d=>lV (p.1.aD q.2) λx=>lV (q.1.aD q.2) λy=>prim TI.v? (hK q.2.g op x y) d λz d=>K (z,q.2) d
 |.cmp op a b=>wO w a s d λp d=>wO w b p.2 d λq d=>lV (p.1.aD q.2) λx=>lV (q.1.aD q.2) λy=>prim TI.b? (aS q.2.g op x y) d λz d=>K (dj z,q.2) d
 |.ite c a b=>w.b c s d λt d=>match t.1 with
  |true=>w.e a t.2 d K
  |false=>w.e b t.2 d K
 |.call l h=>U5 w h s d λo d=>wC l [] o d K
 |.nh o n h=>w.e o s d λx d=>lV (qX x.2.g x.1) λz=>bif (z.2.2.1.idxOf? n).isNone then lV CT[z.2.1]? λu=>lV (u.ms.lookup n) λl=>U5 w h x.2 d λo d=>wC l [ak z.1] o d K else False
 |.bi b a=>wO w a s d λp d=>lV (p.1.aD p.2) λx=>prim TI.v? (uK p.2.g b x) d λy d=>K (y,p.2) d
 |.bm b o h=>wO w o s d λp d=>lV (p.1.aD p.2) λc=>bif xN p.2.g b c then wL w h p.2 d λy d=>prim (TI.at 2) (uJ y.2 b p.1 y.1) d K else False
 |.dw o n=>w.e o s d λx d=>lV (qX x.2.g x.1) λz=>lV (z.2.2.1.idxOf? n) λj=>lV (z.2.2.2[j]?) λy=>K (.v y,x.2) d
 |.sub o i=>wO w o s d λp d=>w.e i p.2 d λk d=>lV (p.1.aD k.2) λx=>prim TI.p? (gy k.2.g x k.1.eJ) d λy d=>K (.v y,k.2) d
 |.sl o lo r=>wO w o s d λp d=>QT w lo p.2 d λa d=>QT w r a.2 d λb d=>lV (p.1.aD b.2) λx=>prim TI.v? (ya b.2.g x a.1 b.1) d λy d=>K (y,b.2) d
 |.tup f=>bif bx f.length 64 then wL w f s d λx d=>K (dQ x.1,x.2) d else False
 |.lst f=>bif bx f.length 64 then wL w f s d λx d=>K (.ml none x.1,x.2) d else False
 |.vP ks m=>lV (keysOf ks) λk=>wL w m s d λv d=>bif qK k&&(k.length==v.1.length&&decide (k.length<=15))then K (.md none k v.1,v.2) d else False
 |_=>False
noncomputable def esc:Ex->Nat
 |.and _=>1
 |.or _=>1
 |.bi ..=>1
 |.comp ..=>1
 |.new ..=>1
 |.prom _=>1
 |.bin ..=>8
 |.bm ..=>9
 |_=>100
def wE(e:Ex)(s:St)(a:Tp)(K:KE):Prop:=xy (TI.at (esc e)) (λf=>f.e e s) a K<|KD w e s a K
def wT(e:Ex)(s:St)(a:Tp)(K:Bool×St->Tp->Prop):Prop:=wO w e s a λp a=>lV (p.1.aD p.2) λx=>prim TI.b? (cF p.2.g x) a λt a=>K (t,p.2) a
def wB(e:Ex)(s:St)(c:Tp)(K:Bool×St->Tp->Prop):Prop:=match e with
 |.not e=>w.b e s c λx c=>K (!x.1,x.2) c
 |.and d=>YF w false d s c K
 |.or d=>YF w true d s c K
 |.cmp op a b=>wO w a s c λp c=>wO w b p.2 c λq c=>lV (p.1.aD q.2) λx=>lV (q.1.aD q.2) λy=>prim TI.b? (aS q.2.g op x y) c λz c=>K (z,q.2) c
 |e=>bif pt e then wT w e s c K else False
def wR(e:Ex)(s:St)(a:Tp)(K:Fl×St->Tp->Prop):Prop:=match e.var? with
 |some i=>lV (s.get i) λx=>K (if x.LG then(if x.tag.isNone then(.ret x,s.put i none)else(.ret<|.v x.eJ,s.put i none))else(.ret x,s)) a
 |none=>w.e e s a λx a=>K (.ret x.1,x.2) a
def Zq(x:Sm)(s:St)(d:Tp)(K:Fl×St->Tp->Prop):Prop:=match x with
 |.asg (.v i) e=>w.e e s d λx d=>K (.dK,x.2.put i<|some x.1) d
 |.asg (.ns k) e=>w.e e s d λx d=>lV (bY (.ns k) x.1.eJ x.2) λs=>K (.dK,s) d
 |.aug i op e=>lV (s.get i) λo=>w.e e s d λx d=>lV o.int? λa=>lV x.1.int? λb=>prim TI.i? (binI op a b) d λc d=>K (.dK,x.2.put i<|some<|ae c) d
 |.bB t j b=>w.e j s d λx d=>lV (srcOf x.2.g x.1) λh=>told (TI.fl 5) (λf=>(fB (λs=>s.g) (forTurn f t b) h x.2).map lFl) d K
 |.aN c a b=>w.b c s d λt d=>match t.1 with
  |true=>w.iT a t.2 d K
  |false=>w.iT b t.2 d K
 |.ret e=>wR w e s d K
 |.ex e=>w.e e s d λx d=>bif x.1.Bz||x.1.int?.isSome then K (.dK,x.2) d else False
 |_=>False
noncomputable def aaf:Sm->Nat
 |.asg t _=>match t with
  |.v _=>100
  |.ns _=>100
  |_=>3
 |.bB ..=>3
 |.g7 ..=>3
 |.aN ..=>7
 |_=>100
def wS(x:Sm)(s:St)(a:Tp)(K:Fl×St->Tp->Prop):Prop:=xy (TI.fl<|aaf x) (λf=>cH f x s) a K<|Zq w x s a K
def QV:List Sm->St->Tp->(Fl×St->Tp->Prop)->Prop
 |[],s,a,K=>K (.dK,s) a
 |x::b,s,a,K=>wS w x s a λy a=>match y.1 with
  |.dK=>QV b y.2 a K
  |fl=>K (fl,y.2) a
end
noncomputable def wk:Nat->Wk
 |0=>⟨λ_ _ _ _=>False,λ_ _ _ _=>False,λ_ _ _ _=>False⟩
 |n+1=>⟨wE<|wk n,λe s a K=>xy TI.bs (λf=>f.b e s) a K<|wB (wk n) e s a K,QV<|wk n⟩
structure WOk(w:Wk):Prop where
 e:∀{e s tp K},w.e e s tp K->Ew (λf=>f.e e s) K
 b:∀{e s tp K},w.b e s tp K->Ew (λf=>f.b e s) K
 iT:∀{e s tp K},w.iT e s tp K->Ew (λf=>f.iT e s) K
section
variable{w:Wk} (H:WOk w)
include H
theorem lz{e:Ex}{s:St}{a:Tp}{K:Op×St->Tp->Prop}(h:wO w e s a K):Ew (λf=>gS f e s) K:=by
 revert h;delta wO gS;induction e.var? with
 |some i=>exact .E0
 |none=>exact λh=>(H.e h).map
theorem Cj{a:List Ex}:∀{s:St}{b:Tp}{K:List PV×St->Tp->Prop},wL w a s b K->Ew (λf=>ua f a s) K:=by
 induction a with
 |nil=>exact@λ_ _ _ h=>.pure h
 |cons _ _ c=>exact@λ_ _ _ h=>(H.e h).bind λ_ _ h=>(c h).map
theorem GK{a:List Ex}:∀{s:St}{b:Tp}{K:List Op×St->Tp->Prop},U5 w a s b K->Ew (λf=>ue f a s) K:=by
 induction a with
 |nil=>exact@λ_ _ _ h=>.pure h
 |cons e a c=>
  intro s b K h;revert h;show(match e.var? with|some i=>_|none=>_)->Ew (λf=>match e.var? with|some i=>_|none=>_) K
  induction e.var? with
  |some i=>exact λh=>.opt h λ_ _ h=>(c h).map
  |none=>exact λh=>(H.e h).bind λ_ _ h=>(c h).map
theorem wx{st:Bool}:∀{a:List Ex}{s:St}{b:Tp}{K:KE},YE w st a s b K->Ew (λf=>zK f st a s) K
 |[],_,_,_,h=>bL h
 |[_],_,_,_,h=>H.e h
 |_::_::_,_,_,_,h=>(H.e h).bind λ_ _ h=>.prim h λt _ h=>by
  induction t<;>induction st
  .exact .pure h
  .exact wx h
  .exact wx h
  .exact .pure h
theorem GJ{st:Bool}{a:List Ex}:∀{s:St}{d:Tp}{K:Bool×St->Tp->Prop},YF w st a s d K->Ew (λf=>oA f st a s) K:=by
 induction a with
 |nil=>exact@λ_ _ _ h=>.pure h
 |cons _ _ c=>
  exact@λ_ _ _ h=>(H.b h).bind λx _ h=>by
   obtain⟨t,x⟩:=x;induction t<;>induction st
   .exact .pure h
   .exact c h
   .exact c h
   .exact .pure h
omit H in
theorem Pj{b:Nat}{a:List RV}{o:List Op×St}{c:Tp}{K:KE}(h:wC b a o c K):Ew (λf=>ic f b a o) K:=.opt h λ_ _ h=>(Ew.told h).map
theorem Ci{e:Option Ex}{s:St}{a:Tp}{K:Option PV×St->Tp->Prop}(h:QT w e s a K):Ew (λf=>rF f e s) K:=by
 induction e with
 |none=>exact .pure h
 |some e=>exact(H.e h).map
omit H in
theorem Xe{b:Type}{n:Nat}{a:Prop}{x:iU->Option b}{K:b->Tp->Prop}(h:bif bx n 64 then a else False)(k:a->Ew x K):Ew (λf=>if n<=64 then x f else none) K:=by
 induction e:bx n 64 with
 |false=>rw[e]at h;exact bL h
 |true=>rw[e]at h;simp only[if_pos<|io e];exact k h
theorem QU{e:Ex}{s:St}{tp:Tp}{K:KE}(h:KD w e s tp K):Ew (λf=>nG f CT e s) K:=by
 cases e with
 |c x=>exact .pure h
 |v i=>exact .E0 (tp:=tp) h
 |and d=>exact wx H h
 |or d=>exact wx H h
 |not e=>delta KD at h;exact(lz H h).bind λ_ _ h=>.opt h λ_ _ h=>.ph h
 |neg e=>exact(H.e (e:=e) h).bind λ_ _ h=>.E0 h
 |bin op a b=>delta KD at h;exact(lz H h).bind λ_ _ h=>(lz H h).bind λ_ _ h=>.opt h λ_ _ h=>.opt h λ_ _ h=>.ph h
 |cmp op a b=>delta KD at h;exact(lz H h).bind λ_ _ h=>(lz H h).bind λ_ _ h=>.opt h λ_ _ h=>.opt h λ_ _ h=>.ph h
 |ite c a b=>
  exact(H.b (e:=c) h).bind λt _ h=>by
   obtain⟨t,x⟩:=t;induction t
   .exact H.e h
   .exact H.e h
 |call q j=>delta KD at h;exact(GK H h).bind λ_ _ h=>Pj h
 |nh o n j=>
  exact(H.e (e:=o) h).bind λ_ _ h=>.opt h λz _ h=>by
   induction e:(z.2.2.1.idxOf? n).isNone with
   |false=>rw[e]at h;exact bL h
   |true=>rw[e]at h;exact .opt h λ_ _ h=>.opt h λ_ _ h=>(GK H h).bind λ_ _ h=>Pj h
 |bi b a=>delta KD at h;exact(lz H h).bind λ_ _ h=>.opt h λ_ _ h=>.ph h
 |bm b o j=>
  delta KD at h;exact(lz H h).bind λp _ h=>.opt h λc _ h=>by
   induction e:xN p.2.g b c with
   |false=>rw[e]at h;exact bL h
   |true=>rw[e]at h;exact(Cj H h).bind λy tp h=>by exact nF (wV h) λx tp e k=>⟨x,tp,⟨0,λ_=>e⟩,k⟩
 |dw o n=>exact(H.e (e:=o) h).bind λ_ _ h=>.opt h λ_ _ h=>.opt h λ_ _ h=>.E0 h
 |sub o i=>delta KD at h;exact(lz H h).bind λ_ _ h=>(H.e h).bind λ_ _ h=>.opt h λ_ _ h=>.ph h
 |sl o lo m=>delta KD at h;exact(lz H h).bind λ_ _ h=>(Ci H h).bind λ_ _ h=>(Ci H h).bind λ_ _ h=>.opt h λ_ _ h=>.ph h
 |tup d=>exact Xe h λh=>(Cj H h).map
 |lst d=>exact Xe h λh=>(Cj H h).map
 |vP ks l=>
  exact .opt h λk _ h=>Ew.bind (F:=λf=>ua f l s) (Cj H h) λv tp h=>by
   induction e:(qK k&&(k.length==v.1.length&&decide (k.length<=15)))with
   |false=>rw[e]at h;exact bL h
   |true=>rw[e]at h;exact .pure h
 |_=>exact bL h
theorem U2{e:Ex}{s:St}{a:Tp}{K:KE}(h:wE w e s a K):Ew (λf=>f.e e s) K:=Ew.xy h λh=>(QU H h).up λm=>oz m _ _
theorem U4{e:Ex}{s:St}{l:Tp}{K:Bool×St->Tp->Prop}(h:wB w e s l K):Ew (λf=>s7 f e s) K:=by
 have d:∀{e:Ex},(bif pt e then wT w e s l K else False)->pt e=true/\Ew (λf=>(gS f e s).bind λp=>(p.1.aD p.2).bind λx=>(cF p.2.g x).map λt=>(t,p.2)) K:=λ{e} h=>by
  induction q:pt e with
  |false=>rw[q]at h;exact bL h
  |true=>rw[q]at h;have h:wT w e s l K:=h;delta wT at h;exact⟨rfl,(lz H h).bind λ_ _ h=>.opt h λ_ _ h=>.ph h⟩
 cases e with
 |not e=>exact(H.b (e:=e) h).map
 |and k=>exact GJ H h
 |or k=>exact GJ H h
 |ite c a b=>exact ff (d (e:=.ite c a b) h).1
 |cmp op a b=>delta wB at h;exact(lz H h).bind λ_ _ h=>(lz H h).bind λ_ _ h=>.opt h λ_ _ h=>.opt h λ_ _ h=>.ph h
 |bad=>exact ff (d (e:=.bad) h).1
 |prom e=>exact ff (d (e:=.prom e) h).1
 |c x=>exact(d (e:=.c x) h).2
 |v i=>exact(d (e:=.v i) h).2
 |neg e=>exact(d (e:=.neg e) h).2
 |bin op a b=>exact(d (e:=.bin op a b) h).2
 |call f j=>exact(d (e:=.call f j) h).2
 |new c j=>exact(d (e:=.new c j) h).2
 |nh o n j=>exact(d (e:=.nh o n j) h).2
 |bi b a=>exact(d (e:=.bi b a) h).2
 |bm b o j=>exact(d (e:=.bm b o j) h).2
 |dw o n=>exact(d (e:=.dw o n) h).2
 |sub o i=>exact(d (e:=.sub o i) h).2
 |sl o lo u=>exact(d (e:=.sl o lo u) h).2
 |tup k=>exact(d (e:=.tup k) h).2
 |lst k=>exact(d (e:=.lst k) h).2
 |vP ks r=>exact(d (e:=.vP ks r) h).2
 |comp m y=>exact(d (e:=.comp m y) h).2
theorem U1{e:Ex}{s:St}{tp:Tp}{K:Fl×St->Tp->Prop}(h:wR w e s tp K):Ew (λf=>yR f e s) K:=by
 revert h;delta wR yR;induction e.var? with
 |some i=>exact λh=>.E0 (tp:=tp) h
 |none=>exact λh=>(H.e h).map
theorem GI{x:Sm}{s:St}{tp:Tp}{K:Fl×St->Tp->Prop}(h:Zq w x s tp K):Ew (λf=>cH f x s) K:=by
 cases x with
 |asg t e=>
  induction t with
  |v i=>exact(H.e (e:=e) h).bind λ_ _ h=>.pure h
  |ns l=>exact(H.e (e:=e) h).bind λx tp h=>.E0 (tp:=tp) h
  |_=>exact bL h
 |aug i op e=>exact .opt h λ_ _ h=>(H.e h).bind λ_ _ h=>.opt h λ_ _ h=>.opt h λ_ _ h=>.ph h
 |bB t g b=>exact(H.e (e:=g) h).bind λx _ h=>.opt h λd _ h=>by obtain⟨y,tp,⟨n,j⟩,k⟩:=Ew.told h;exact⟨y,tp,⟨n,j⟩,k⟩
 |aN c a b=>
  exact(H.b (e:=c) h).bind λt _ h=>by
   obtain⟨t,x⟩:=t;induction t
   .exact H.iT h
   .exact H.iT h
 |ret e=>exact U1 H h
 |ex e=>
  exact(H.e (e:=e) h).bind λx tp h=>by
   induction q:(x.1.Bz||x.1.int?.isSome)with
   |false=>rw[q]at h;exact bL h
   |true=>rw[q]at h;exact .pure h
 |_=>exact bL h
theorem Li{b:List Sm}:∀{s:St}{a:Tp}{K:Fl×St->Tp->Prop},QV w b s a K->Ew (λf=>ia f b s) K:=by
 induction b with
 |nil=>exact@λ_ _ _ h=>.pure h
 |cons x e c=>
  intro s a K h;refine Ew.bind (F:=λf=>cH f x s) (Ew.xy h λh=>GI H h) λy a h=>?_;obtain⟨d,y⟩:=y;induction d with
  |dK=>exact c h
  |_=>exact .pure h
end
theorem oS:∀n,WOk (wk n)
 |0=>⟨λh=>bL h,λh=>bL h,λh=>bL h⟩
 |n+1=>⟨λh=>U2 (oS n) h,λh=>Ew.xy h λh=>(U4 (oS n) h).up λm=>Jy m _ _,λh=>(Li (oS n) h).up λm=>xt m _ _⟩
structure Ob where
 ti:TI
 A:Prop->Prop
 pf:∀X,X->A X
def obs:List Ob->Prop->Prop
 |[],X=>X
 |o::l,X=>o.A<|obs l X
theorem RG(l):∀{X},X->obs l X:=by
 induction l with
 |nil=>exact@λ_ h=>h
 |cons o l a=>exact@λ_ h=>o.pf _<|a h
def od:Ob:=⟨td,λX=>X,λ_ x=>x⟩
noncomputable def oP(i:TI){P:Prop}(h:P):Ob:=⟨i,λX=>P/\X,λ_ x=>⟨h,x⟩⟩
def oc{c:Nat}{d:List RV}{g a:List GO}{x:RV}{b:List (Option RV)}(h:ai c d g x b a):Ob:=oP (tc x b a) h
def ob{o:Option Bool}{b:Bool}(h:o=some b):Ob:=oP (tb b) h
def ov{o:Option RV}{x:RV}(h:o=some x):Ob:=oP (tv x) h
def op{o:Option PV}{x:PV}(h:o=some x):Ob:=oP (tv<|.v x) h
def oi{o:Option Int}{i:Int}(h:o=some i):Ob:=oP (tv<|ae i) h
def om{o:Option (RV×St)}{x:RV}{s:St}(h:o=some (x,s)):Ob:=oP (tm x s) h
def ox{e:Ex}{s s':St}{x:RV}(h:Ok (λf=>f.e e s) (x,s')):Ob:=oP (tx x s') h
def o8{e:Ex}{s a:St}{x:RV}(h:Ok (λf=>f.e e s) (x,a)):Ob:=oP ⟨8,x,a,.dK⟩ h
def o9{e:Ex}{s a:St}{x:RV}(h:Ok (λf=>f.e e s) (x,a)):Ob:=oP ⟨9,x,a,.dK⟩ h
def ot{e:Ex}{s s':St}{b:Bool}(h:Ok (λf=>f.b e s) (b,s')):Ob:=oP (tt b s') h
def os{e:Sm}{s a:St}{x:Fl}(h:Ok (λf=>cH f e s) (x,a)):Ob:=oP (ts x a) h
def o7{e:Sm}{s a:St}{x:Fl}(h:Ok (λf=>cH f e s) (x,a)):Ob:=oP ⟨7,.v .none,a,x⟩ h
abbrev Kl(t:Tg)(b:List Sm)(src:Src)(s:St)(c:Fl)(a:St):Prop:=Ok (λf=>(fB (λs=>s.g) (forTurn f t b) src s).map lFl) (c,a)
def ol{t:Tg}{b:List Sm}{src:Src}{s a:St}{c:Fl}(h:Kl t b src s c a):Ob:=oP (tl c a) h
def rR(a:Nat):cx:=FT[a]?.getD f0
theorem Jq(h:SL a 100=true):FT[a]?=some (rR a):=by delta rR;rw[At<|show a<FT.length from io h];rfl
noncomputable def XX(n:Nat)(a:cx):Bool:=decide (n<=a.np)&&decide (a.np<=n+a.kI.length)
def YR(a:cx)(b:List RV)(g:List GO)(z:RV×List (Option RV)×List GO)(d:Nat)(l:List Ob):Prop:=bif XX b.length a then
 (wk d).iT a.body ⟨b.map some++(a.kI.drop<|a.kI.length+b.length - a.np).map (λx=>some<|.v x)++UF (a.ns - a.np) none,g⟩ (l.map Ob.ti) λy _=>pQ b y.2 y.1=some z else False
def KN{a:Type}(l:List Ob)(z:a):Prop:=obs l<|z=z
theorem Uu(l)(z:a):KN l z:=RG l rfl
theorem Ux(m:FT[j]?=some h)(d)(l)(e:YR h c g z d l=KN l (some z):=by kernel_rfl):Ok (λf=>f.call j c g) z:=by
 have q:YR h c g z d l:=e.mpr<|Uu l<|some z
 delta YR at q;induction i:XX c.length h with
 |false=>rw[i]at q;exact q.elim
 |true=>rw[i]at q;obtain⟨y,_,o,k⟩:=(oS d).iT q;exact(o.bind (G:=λ_(y:Fl×St)=>pQ c y.2 y.1) ⟨0,λ_=>k⟩).up λn=>(sq n j h c g m).trans<|aE i λa b=>if_pos ⟨dT a,dT b⟩
theorem kf{b g z}(d)(l)(h:SL a 100=true:=by rfl)(e:YR (rR a) b g z d l=KN l (some z):=by kernel_rfl):Ok (λf=>f.call a b g) z:=Ux (Jq h) d l e
def ZY(b:List Sm)(s:St)(y:Fl×St)(d:Nat)(l:List Ob):Prop:=(wk d).iT b s (l.map Ob.ti) λz _=>z=y
def keL(b:Ex)(s:St)(y:RV×St)(d:Nat)(l:List Ob):Prop:=(wk d).e b s (l.map Ob.ti) λz _=>z=y
def kbL(b:Ex)(s:St)(y:Bool×St)(d:Nat)(l:List Ob):Prop:=(wk d).b b s (l.map Ob.ti) λz _=>z=y
theorem kl(d)(l)(e:ZY b s y d l=KN l y:=by kernel_rfl):Ok (λf=>f.iT b s) y:=by
 obtain⟨z,_,a,k⟩:=(oS d).iT<|show ZY b s y d l from e.mpr<|Uu l y
 exact k▸a
theorem ke(d)(l)(e:keL b s y d l=KN l y:=by kernel_rfl):Ok (λf=>f.e b s) y:=by
 obtain⟨z,_,a,k⟩:=(oS d).e<|show keL b s y d l from e.mpr<|Uu l y
 exact k▸a
theorem kb(d)(l)(e:kbL b s y d l=KN l y:=by kernel_rfl):Ok (λf=>f.b b s) y:=by
 obtain⟨z,_,a,k⟩:=(oS d).b<|show kbL b s y d l from e.mpr<|Uu l y
 exact k▸a
theorem ks(d)(l)(e:(Zq (wk d) b s (l.map Ob.ti) λz _=>z=y)=KN l y:=by kernel_rfl):Ok (λf=>cH f b s) y:=by
 obtain⟨z,_,a,k⟩:=GI (oS d) (K:=λz _=>z=y)<|e.mpr<|Uu l y
 exact k▸a
def XW(t:Tg)(u:PV)(s:St):St:=(bY t u s).getD s
def Wx(t:Tg)(b:List Sm)(u:PV)(s:St)(z:Fl×St)(d:Nat)(l:List Ob):Prop:=bif (bY t u s).isSome then ZY b (XW t u s) z d l else False
noncomputable def flO(z:Fl×St):Option Fl×St:=match z.1 with
 |.dK=>(none,z.2)
 |.cnt=>(none,z.2)
 |.brk=>(some .dK,z.2)
 |.ret r=>(some<|.ret r,z.2)
theorem ktF(d)(l)(e:Wx t b u s z d l=KN l z):Ok (λf=>forTurn f t b u s) (flO z):=by
 have q:Wx t b u s z d l:=e.mpr<|Uu l z
 delta Wx XW at q;induction h:bY t u s with
 |none=>rw[h]at q;exact q.elim
 |some c=>rw[h]at q;obtain⟨y,_,a,k⟩:=(oS d).iT q;exact(k▸a).one λf e=>bI h<|mI e rfl
theorem kt(d)(l)(e:Wx t b u s (.dK,a) d l=KN l (Fl.dK,a):=by kernel_rfl):Ok (λf=>forTurn f t b u s) (none,a):=ktF d l e
theorem Sv(d)(l)(e:Wx t b u s (.ret r,a) d l=KN l (Fl.ret r,a):=by kernel_rfl):Ok (λf=>forTurn f t b u s) (some<|.ret r,a):=ktF d l e
theorem fj(i j):TW (.int j) (.int i)=decide (i=j):=by
 rw[TW];by_cases h:i=j
 .subst h;rw[decide_eq_true rfl];exact beq_self_eq_true i
 .exact(decide_eq_false h)▸beq_false_of_ne (oM h)
theorem ao(h:decide (i=j)=t):aS g .Eq (ae i) (ae j)=some t:=congrArg some<|(fj j i).trans<|(decide_eq_decide.mpr eq_comm).trans h
theorem xH(h:(!decide (i=j))=t):aS g .NotEq (ae i) (ae j)=some t:=congrArg some<|(congrArg (!·)<|(fj j i).trans<|decide_eq_decide.mpr eq_comm).trans h
theorem JK(h:decide (j<=i)=t):aS g .GtE (ae i) (ae j)=some t:=congrArg some h
abbrev oF(t:Tg)(b:List Sm)(u:PV)(s s':St):Prop:=Ok (λf=>forTurn f t b u s) (none,s')
theorem aQ(h:oF t b u s a)(c:Ok (λf=>bb (forTurn f t b) l a) r):Ok (λf=>bb (forTurn f t b) (u::l) s) r:=h.two c λ_=>dk
theorem cT:Ok (λf=>bb (forTurn f t b) [] s) (none,s):=.pure
theorem kU{r}(h:Ok (λf=>forTurn f t b u s) (some r,a)):Ok (λf=>bb (forTurn f t b) (u::l) s) (some r,a):=h.one λ_=>qQ
theorem tM(h:Ok (λf=>fB (λs=>s.g) (forTurn f t b) src s) r):Kl t b src s (r.1.getD .dK) r.2:=h.map λ_=>rfl
theorem cz(h:Ok (λf=>fB (λs=>s.g) (forTurn f t b) src s) (none,a)):Kl t b src s .dK a:=tM h
theorem ka(h:Ok (λf=>f.e it s) (x,s1))(d:srcOf s1.g x=some src)(c:Kl t b src s1 i a):Ok (λf=>cH f (.bB t it b) s) (i,a):=h.two c λf k j=>bI k<|bI d j
inductive Lp{a c:Type}(turn:iU->PV->a->Option (Option c×a))(P:a->Prop):List PV->a->Option c×a->Prop
 |nil {s:a} (h:P s):Lp turn P [] s (none,s)
 |cons {u:PV} {l:List PV} {s b:a} {r:Option c×a} (h:P s) (d:Ok (λF=>turn F u s) (none,b)) (e:Lp turn P l b r):Lp turn P (u::l) s r
 |stop {u:PV} {l:List PV} {s b:a} {f:c} (h:P s) (d:Ok (λF=>turn F u s) (some f,b)):Lp turn P (u::l) s (some f,b)
section
variable{r:Option ε×σ}
theorem Lp.Vn (h:Lp turn P l s r):Ok (λF=>bb (turn F) l s) r:=by
 induction h with
 |nil _=>exact .pure
 |cons _ q _ u=>exact q.two u λ_=>dk
 |stop _ q=>exact q.one λ_=>qQ
theorem Lp.imp (h:Lp q P l s r) (k:∀s,P s->Q s):Lp q Q l s r:=by
 induction h with
 |nil h=>exact .nil<|k _ h
 |cons h u _ z=>exact .cons (k _ h) u z
 |stop h u=>exact .stop (k _ h) u
theorem M4{t:PV->σ->Option (Option ε×σ)}(b:(gl s)[n]?=some (.list a)):je gl n t (k+1) i s=match a[i]? with
 |none=>some (none,s)
 |some x=>(t x s).bind λy=>match y.1 with
  |some r=>some (some r,y.2)
  |none=>je gl n t k (i+1) y.2:=by show rK _ _=_;rw[b];rfl
theorem DW{b:Type}{a l:List b}{u}(e:a.drop i=u::l):a[i]?=some u:=lM.symm.trans<|congrArg jB e
theorem N'{b:Type}{a l:List b}{u}(e:a.drop i=u::l):a.drop (i+1)=l:=nu.symm.trans<|congrArg yh e
theorem Lp.toG {gl n E} (h:Lp u (λs=>(gl s)[n]?=some (.list E)) l s r):∀{i k},E.drop i=l->l.length<k->Ok (λF=>je gl n (u F) k i s) r:=by
 induction h with
 |nil z=>exact λ{i k} e q=>match k,q with
  |k+1,_=>Ok.pure.congr λf=>(M4 z).trans<|dy.mpr (fy.mp e)▸rfl
 |cons z C _ H=>exact λ{i k} e q=>match k,q with
  |k+1,q=>C.two (H (i:=i+1) (k:=k) (N' e)<|bg q) λf D I=>(M4 z).trans<|(DW e).symm▸bI D I
 |stop z C=>exact λ{i k} e q=>match k,q with
  |k+1,_=>C.one λf D=>(M4 z).trans<|(DW e).symm▸bI D rfl
end
abbrev Km(t:Tg)(b:List Sm)(P:St->Prop):List PV->St->Option Fl×St->Prop:=Lp (λF=>forTurn F t b) P
noncomputable def iv(l:List Nat):List PV:=l.map λ(n:Nat)=>.int (n:Int)
noncomputable def ones(l:List Nat):List PV:=l.map λ_=>.int 1
noncomputable def fp(l:List Nat)(p:Nat):List Nat:=if p∈l then l else l++[p]
theorem aJ(l):(iv l).length=l.length:=im _
theorem gF(a)(u):iv a++[.int (u:Int)]=iv (a++[u]):=(AC (f:=λn:Nat=>PV.int (n:Int)) (l₁:=a) (l₂:=[u])).symm
theorem jc{k:Nat}(h:t≠k):decide ((t:Int)=(k:Int))=false:=decide_eq_false λe=>h<|mN e
theorem zD:∀{l:List Nat},p∈l->∃i,aM (.int (p:Int)) (iv l)=some i:=λ{l} h=>by
 induction l with
 |nil=>exact nomatch h
 |cons x l a=>
  show∃i,(if decide ((x:Int)=(p:Int))=true then some 0 else(aM (.int (p:Int))<|iv l).map (· +1))=some i
  by_cases e:x=p
  .exact⟨0,if_pos<|decide_eq_true<|congrArg Al e⟩
  .exact(a<|(rc.mp h).resolve_left λq=>e q.symm).elim λi b=>⟨i+1,(if_neg (by exact(jc e)▸xz)).trans<|mI b rfl⟩
theorem jT{l:List Nat}(h:∀p∈l,(p:Int)≠i):aM (.int i) (iv l)=none:=by
 induction l with
 |nil=>rfl
 |cons x l a=>
  show(if decide ((x:Int)=i)=true then some 0 else(aM (.int i)<|iv l).map (· +1))=none
  rw[decide_eq_false<|h x<|.head _,a λp m=>h p<|.tail _ m];rfl
theorem H9{l:List Nat}(h:p∉l):∀q∈l,(q:Int)≠(p:Int):=λq m e=>h<|mN e▸m
theorem SY(l):(iv l).all DG=true:=bv.mpr λx m=>(to.mp m).elim λ_ h=>h.2▸rfl
theorem pI(l):((true&&(iv l).all DG)||(false&&(iv l).all I3))=true:=by rw[SY];rfl
theorem HS(l):∀(i),(ones l).set i (.int 1)=ones l:=by
 induction l with
 |nil=>exact λ_=>rfl
 |cons x l a=>exact λi=>match i with
  |0=>rfl
  |i+1=>congrArg (PV.int 1::·)<|a i
theorem AK(l)(p:Nat):upd (iv l) (ones l) (.int (p:Int)) (.int 1)=(iv<|fp l p,ones<|fp l p):=by
 delta upd fp;by_cases h:p∈l
 .refine fN (zD h) λi a=>?_;refine(if_pos h)▸a▸?_;exact congrArg (iv l,·)<|HS l i
 .refine(if_neg h)▸(jT<|H9 h)▸?_
  exact congr (congrArg Prod.mk (AC (f:=λn:Nat=>PV.int (n:Int)) (l₁:=l) (l₂:=[p])).symm) (AC (f:=λ_:Nat=>PV.int 1) (l₁:=l) (l₂:=[p])).symm
section
variable{p:Nat}
theorem nK(h:decide (p∈l)=b):aS g .In (ae p) (.md t (iv l)<|ones l)=some b:=by
 refine(if_pos<|pI l).trans<|congrArg some<|Eq.trans ?_ h
 by_cases h:p∈l
 .rw[decide_eq_true h];exact(zD h).elim λi a=>a▸rfl
 .rw[decide_eq_false h,jT<|H9 h];rfl
theorem vD:aS g .In (ae (-1)) (.md t (iv l)<|ones l)=some false:=(if_pos<|pI l).trans (by rw[jT λq _ e=>Int.noConfusion e];rfl)
theorem tB(h:decide (p∉l)=b):aS g .NotIn (ae p) (.md t (iv l)<|ones l)=some b:=mI (nK (g:=g) rfl)<|decide_not.symm.trans h
theorem pq:aS g .NotIn (ae (-1)) (.md t (iv l)<|ones l)=some true:=mI (vD (g:=g)) rfl
theorem Ii(a:rs[i]?=some (some<|.md t (iv l)<|ones l))(c:Ok (λf=>f.e k ⟨rs,g⟩) (ae p,⟨rs,g⟩))(b:l.length<az) (h:(Op.pl i).store ⟨rs,g⟩ (.md none (iv<|fp l p)<|ones<|fp l p)=some s):Ok (λf=>cH f (.asg (.sub (.v i) k) bJ) ⟨rs,g⟩) (.dK,s):=(Ok.of (F:=λf=>f.e bJ ⟨rs,g⟩) 1 λ_=>N8).two c λf j d=>bI j<|mI (bI (mI (eI a) rfl)<|bI d<|bI (eI a)<|bI (qA rfl rfl<|sB.mpr ⟨decide_eq_true<|(aJ l).symm▸b,pI l⟩)<|(congrArg (λz=>(Op.pl i).store ⟨rs,g⟩<|.md none z.1 z.2)<|AK l p).trans h) rfl
theorem any_ints(k)(l:List Int):(l.map gW.int).any (λy=>TW y<|.int k)=l.any λi=>decide<|i=k:=by
 induction l with
 |nil=>rfl
 |cons i l a=>exact congr (congrArg or<|(fj k i).trans<|decide_eq_decide.mpr eq_comm) a
theorem vQ(g)(n)(l:List Int):k5 (dat g<|n+1) (l.map .int)=some (l.map .int):=by
 induction l with
 |nil=>rfl
 |cons i l a=>exact mI a rfl
theorem pN{l:List Int}(h:(l.any λi=>decide<|i=k)=b):aS g .In (ae k) (dQ<|l.map .int)=some b:=bI (vQ g 8 l)<|congrArg some<|(any_ints k l).trans h
end
def compTurn(f:iU)(a:List Nat)(b:Ex)(t:Tg)(cs:List Ex)(x:PV)(s:List PV×St):Option (Option Unit×(List PV×St)):=(bY t x s.2).bind λd=>(iQ f cs d).bind λc=>if c.1 then KZ f a b [] (s.1,c.2)else some (none,(s.1,c.2))
section
variable{elt:Ex} {t:Tg} {cs:List Ex} {s s':St} {src:Src} {out:List PV}
theorem sx(g:bY t u s=some b)(d:Ok (λf=>iQ f cs b) (false,a)):Ok (λf=>compTurn f c elt t cs u (out,s)) (none,(out,a)):=d.one λ_ e=>bI g<|bI e rfl
theorem fV(g:bY t u s=some s1)(d:Ok (λf=>iQ f cs s1) (true,s2))(b:out.length<az)(c:Ok (λf=>f.e elt s2) (y,s3)):Ok (λf=>compTurn f a elt t cs u (out,s)) (none,(out++[y.eJ],s3)):=d.two c λ_ e h=>bI g<|bI e<|(if_pos rfl).trans<|(if_pos b).trans<|mI h rfl
abbrev CpR(elt:Ex)(t:Tg)(cs:List Ex)(src:Src)(s:St)(out:List PV)(s':St):Prop:=Ok (λf=>fB (λz:List PV×St=>z.2.g) (compTurn f (kH t) elt t cs) src ([],s)) (none,(out,s'))
theorem Bx(b:Ok (λf=>eY f (kH t) (λ(s:List PV×St)=>s.2) (λst s=>(s.1,clear (kH t) st)) a (compTurn f (kH t) elt t cs) ([],clear (kH t) s)) (none,z)):Ok (λf=>f.e (.comp elt [(t,a,cs)]) s) (.ml none z.1,clear (kH t) z.2):=by refine Ok.up (F:=λf=>mv f elt [(t,a,cs)] s) (b.one λf e=>?_) λn=>oz ..;have c:([(t,a,cs)]:List (Tg×Ex×List Ex)).flatMap (λg=>kH g.1)=kH t:=u8 _;delta mv;rw[c];exact mI e rfl
theorem fR(a:nv it=true)(d:Ok (λf=>f.e it<|clear (kH t) s) (x,s1))(c:srcOf s1.g x=some src)(b:CpR elt t cs src (clear (kH t) s1) out s'):Ok (λf=>f.e (.comp elt [(t,it,cs)]) s) (.ml none out,clear (kH t) s'):=Bx (z:=(out,s')) (d.two b λf i h=>by rw[eY,tA a];exact bI i<|bI c h)
theorem eH{y}(c:(clear (kH t) s).get i=some (.v y))(b:srcOf (clear (kH t) s).g (.v y)=some src)(a:CpR elt t cs src (clear (kH t) s) out s'):Ok (λf=>f.e (.comp elt [(t,.v i,cs)]) s) (.ml none out,clear (kH t) s'):=Bx (z:=(out,s')) (a.one λf d=>bI c<|bI b d)
theorem mW(a:(kH t).contains i=false)(c:(clear (kH t) s).get i=some (.ml tg l))(b:CpR elt t cs (.l l) (clear (kH t) ((clear (kH t) s).put i none)) out s'):Ok (λf=>f.e (.comp elt [(t,.v i,cs)]) s) (.ml none out,clear (kH t) (clear (kH t) (s'.put i<|some<|.ml tg l))):=Bx (z:=(out,clear (kH t) (s'.put i<|some<|.ml tg l))) (b.one λf d=>bI c<|(if_pos a).trans<|mI (show bb (compTurn f (kH t) elt t cs) l _=_ from d) rfl)
theorem d9:Ok (λf=>iQ f [] s) (true,s):=.pure
theorem jk(h:Ok (λf=>f.b e s) (a,s)):Ok (λf=>iQ f [e] s) (a,s):=h.one λf e=>by
 induction a with
 |true=>exact bI e rfl
 |false=>exact bI e rfl
theorem pH(c:nv a=true)(h:Ok (λf=>f.e a s) (x,s1))(d:uK s1.g b x=some y):Ok (λf=>f.e (.bi b a) s) (y,s1):=Ok.up (h.one (H:=λf=>nG f CT (.bi b a) s) λf e=>bI (show gS f a s=some (.rv x,s1) by rw[gS,tA c];exact mI e rfl)<|bI rfl<|mI d rfl) λn=>oz ..
end
theorem jU(h:a+(b+1)<c):a<c/\a+b<c/\a+1+b<c:=⟨ac (pp ..) h,cM h,(AT a 1 b).symm▸h⟩
theorem Tf{b:Type}{p a}{l:List b}(h:p a=true):(a::l).filter p=a::l.filter p:=by exact aX.trans<|if_pos h
theorem Th{b:Type}{p a}{l:List b}(h:p a=false):(a::l).filter p=l.filter p:=by exact aX.trans<|if_neg<|h▸xz
section
variable{cs:List Ex} {rs:List (Option RV)} {g:List GO} {p:Nat->Bool} {F:Nat->PV}
theorem xd{qs:List Nat}:∀{out y},out.length+qs.length<az->(∀q∈qs,Ok (λf=>iQ f cs ⟨rs.set j<|some<|ae q,g⟩) (p q,⟨rs.set j<|some<|ae q,g⟩))->(∀q∈qs,p q=true->Ok (λf=>f.e elt ⟨rs.set j<|some<|ae q,g⟩) (.v<|F q,⟨rs.set j<|some<|ae q,g⟩))->∃b,Ok (λf=>bb (compTurn f [j] elt (.v j) cs) (iv qs) (out,⟨rs.set j y,g⟩)) (none,(out++(qs.filter p).map F,⟨rs.set j b,g⟩)):=by
 induction qs with
 |nil=>exact λ{out y} _ _ _=>⟨y,(u8 out).symm▸.pure⟩
 |cons q qs k=>
  intro out y n i h;have a:=jU n;have l:bY (.v j) (.int (q:Int)) ⟨rs.set j y,g⟩=some ⟨rs.set j<|some<|ae q,g⟩:=congrArg (λr=>some<|St.mk r g) (Ah ..)
  have d:=i q<|.head _
  induction e:p q with
  |true=>
   rw[e]at d;obtain⟨b,c⟩:=k (out:=out++[F q]) (y:=some<|ae q) (ch▸a.2.2) (λq m=>i q<|.tail _ m) λq m=>h q<|.tail _ m
   rw[sK]at c;exact⟨b,by rw[Tf e];exact(fV l d a.1<|h q (.head _) e).two c λf=>dk⟩
  |false=>
   rw[e]at d;obtain⟨b,c⟩:=k (out:=out) (y:=some<|ae q) a.2.1 (λq m=>i q<|.tail _ m) λq m=>h q<|.tail _ m
   exact⟨b,by rw[Th e];exact(sx l d).two c λf=>dk⟩
end
theorem ND(j:FT[d]?=some fd)(l:(decide (c.length<=fd.np)&&decide (fd.np<=c.length+fd.kI.length))=true)(i:c.map some++(fd.kI.drop<|fd.kI.length+c.length - fd.np).map (λx=>some<|.v x)++UF (fd.ns - fd.np) none=e) (h:Ok (λf=>f.iT fd.body ⟨e,g⟩) (m,st)) (k:pQ c st m=some z):Ok (λf=>f.call d c g) z:=by subst i;exact(h.bind (G:=λ_(y:Fl×St)=>pQ c y.2 y.1) ⟨0,λ_=>k⟩).up λn=>(sq n d fd c g j).trans<|aE l λa b=>if_pos ⟨dT a,dT b⟩
theorem aK:∀{i},aM k l=some i->l[i]?=some k:=by
 induction l with
 |nil=>exact λh=>nE h
 |cons x l a=>
  intro i h;have h:(if PV.beq x k=true then some 0 else(aM k l).map (· +1))=some i:=h
  induction e:PV.beq x k with
  |true=>rw[e]at h;exact sJ h▸PV.beq_eq e▸rfl
  |false=>rw[e]at h;exact mE h λj b q=>q▸a b
theorem kh:∀{i},aM k l=some i->aM k (l++m)=some i:=by
 induction l with
 |nil=>exact λh=>nE h
 |cons x l a=>
  intro i h;have h:(if PV.beq x k=true then some 0 else(aM k l).map (· +1))=some i:=h
  show(if PV.beq x k=true then some 0 else(aM k<|l++m).map (· +1))=some i
  induction e:PV.beq x k with
  |true=>rw[e]at h;exact h
  |false=>rw[e]at h;exact mE h λj b q=>mI (a b) q
theorem FE(r:PV.beq k k=true):aM k l=none->aM k (l++[k])=some l.length:=by
 induction l with
 |nil=>exact λ_=>if_pos r
 |cons x l a=>
  intro h;have h:(if PV.beq x k=true then some 0 else(aM k l).map (· +1))=none:=h
  show(if PV.beq x k=true then some 0 else(aM k<|l++[k]).map (· +1))=some (l.length+1)
  induction e:PV.beq x k with
  |true=>rw[e]at h;exact nE h.symm
  |false=>rw[e]at h;exact mI (a<|Option.map_eq_none_iff.mp h) rfl
theorem NN(R)(x):ids (R++[x])=ids R++[.int (R.length:Int)]:=by delta ids;rw[ch,List.length_singleton,List.range_succ,AC];rfl
theorem NL(h:i<R.length):(ids R)[i]?=some (.int (i:Int)):=H1.trans<|mI (Eo h) rfl
def oe(R:List PV)(a:PV):Nat×List PV:=match aM a R with
 |some i=>(i,R)
 |none=>(R.length,R++[a])
section
variable{R:List PV} {L:List GO} {l:List PV} {t:Nat}
theorem zw(a:isKey 6 (.tup l)=true)(h:(aM (.tup l) R).isSome=b):aS (G R L) .In (dQ l) (ak 3)=some b:=(if_pos a).trans<|congrArg some h
def G1(R:List PV)(a:PV)(L:List GO):List GO:=.inst 0::.iK LO LN::.list (R++[a])::.dict R (ids R)::(G R L).drop 4
noncomputable abbrev yS(R:List PV)(l:List PV)(g:List GO):St:=⟨[some<|ak 0,some<|dQ l,some<|ae (R.length:Int)],g⟩
theorem Md:(EV<|n+2).e (.dw (.v 0) Bb) (yS R l<|G1 R (.tup l) L)=some (ak 3,yS R l<|G1 R (.tup l) L):=(oz ..).trans<|bI (Qs rfl) rfl
theorem Ru(b:isKey 6 (.tup l)=true)(a:R.length<az)(h:aM (.tup l) R=none):Ok (λf=>cH f (.asg (.sub (.dw (.v 0) Bb)<|.v 1)<|.v 2)<|yS R l<|G1 R (.tup l) L) (.dK,yS R l<|G (R++[.tup l]) L):=Ok.of 2 λn=>qF (d:=(R,ids R)) (Qs rfl) (Gk rfl Md) (Qs rfl) rfl rfl rfl (sB.mpr ⟨decide_eq_true a,b⟩) (by
  show some (yS R l<|GO.inst 0::.iK LO LN::.list (R++[.tup l])::.dict (upd R (ids R) (.tup l)<|.int R.length).1 (upd R (ids R) (.tup l)<|.int R.length).2::(G R L).drop 4)=some (yS R l<|GO.inst 0::.iK LO LN::.list (R++[.tup l])::.dict (R++[.tup l]) (ids<|R++[.tup l])::(G R L).drop 4)
  rw[upd,h,NN])
theorem Me(a:R.length<az):uJ (yS R l<|G R L) .append (.rv<|ak 2) [.tup l]=some (.v .none,yS R l<|G1 R (.tup l) L):=(if_pos a).trans rfl
theorem pD(a:isKey 6 (.tup l)=true)(c:R.length<az):ai 84 [ak 0,dQ l] (G R L) (ae (oe R<|.tup l).1) [none,none] (G (oe R<|.tup l).2 L):=by
 delta oe;induction h:aM (.tup l) R with
 |some i=>exact kf 9 [ob<|zw (L:=L) (b:=true) a<|congrArg u9 h,op<|show gy (G R L) (ak 3) (.tup l)=some (.int (i:Int)) from(if_pos a).trans<|bI h<|NL (ty.mp<|aK h).1]
 |none=>exact kf 9 [ob<|zw (L:=L) (b:=false) a<|congrArg u9 h,od,om<|Me (l:=l) (L:=L) c,os<|Ru (L:=L) a c h]
theorem WZ(h:R[t]?=some (.tup<|.int k::a)):ai 0 [ak 0,ae t] (G R L) (ae k) [none,none] (G R L):=kf 9 [op<|bj (L:=L) h,od]
end
inductive bq(g:List GO)(k:Nat):RV->List PV->Prop
 |tup (l:List PV):bq g k (dQ l) l
 |lst (l:List PV):bq g k (.v<|.lst l) l
 |ml (l:List PV):bq g k (.ml (some k) l) l
 |aZ {n:Nat} {l:List PV} (h:g[n]?=some (.list l)):bq g k (ak n) l
theorem bq.Us (h:bq g k x l) (u:q[i]?=some (some x)):Ok (λf=>f.e (.v i) ⟨q,g⟩) (.v x.eJ,⟨q.set i (some (.v x.eJ)),g⟩):=Ok.of 1 λn=>(oz ..).trans (mI (eI u) (by
 have z:∀y:PV,q[i]?=some (some<|.v y)->(RV.v y,St.mk q g)=(RV.v y,⟨q.set i<|some<|.v y,g⟩):=λy h=>by obtain⟨C,D⟩:=ty.mp h;rw[<-D,List.set_getElem_self C]
 induction h with
 |ml=>rfl
 |tup l=>exact z _ u
 |lst l=>exact z _ u
 |aZ h=>exact z _ u))
theorem bq.back (h:bq g k x l) (z:q[k]?=some (some<|.v x.eJ)) (u):ee ⟨q,g'⟩ k (x::u)=none::ee ⟨q,g'⟩ (k+1) u:=by
 induction h with
 |tup=>rfl
 |lst=>rfl
 |aZ=>rfl
 |ml l=>exact congrArg (· ::_)<|bI (eI z) rfl
theorem ou(d:bq g 1 x l)(j:rs[i]?=some (some x))(h:Km t b (λs=>s.g=g) l ⟨rs.set i<|some<|.v x.eJ,g⟩ (f,c)):Ok (λF=>cH F (.bB t (.v i) b) ⟨rs,g⟩) (f.getD .dK,c):=by
 have lst:srcOf g (.v x.eJ)=some (.l l)->Ok (λF=>cH F (.bB t (.v i) b) ⟨rs,g⟩) (f.getD .dK,c):=λm=>ka (d.Us j) m<|tM (src:=.l l) h.Vn
 induction d with
 |tup=>exact lst rfl
 |lst=>exact lst rfl
 |ml=>exact lst rfl
 | @aZ n l a=>exact ka ((bq.aZ (k:=1) a).Us j) (src:=.g n (l.length+1) 0) (bI a rfl)<|tM (src:=.g n (l.length+1) 0)<|(h.imp λs e=>e▸a).toG (i:=0) (k:=l.length+1) rfl<|Ix _
noncomputable def tZ(x:Nat):List Nat->List Nat
 |[]=>[x]
 |y::l=>if x<=y then x::y::l else y::tZ x l
noncomputable def gf:List Nat->List Nat
 |[]=>[]
 |x::l=>tZ x<|gf l
theorem S6(x:Nat)(l):ins (x:Int) (l.map λ(n:Nat)=>(n:Int))=(tZ x l).map λ(n:Nat)=>(n:Int):=by
 induction l with
 |nil=>rfl
 |cons y l a=>
  show(if(x:Int)<=(y:Int)then _ else _)=(if x<=y then _ else _:List Nat).map _
  by_cases h:x<=y
  .rw[if_pos h,if_pos<|jx.mpr h];rfl
  .rw[if_neg h,if_neg λq=>h<|jx.mp q,a];rfl
theorem CU(l):nI (l.map λ(n:Nat)=>(n:Int))=(gf l).map λ(n:Nat)=>(n:Int):=by
 induction l with
 |nil=>rfl
 |cons x l a=>exact(congrArg (ins (x:Int)) a).trans<|S6 x _
theorem pL(l):intsOf (iv l)=some (l.map λ(n:Nat)=>(n:Int)):=by
 induction l with
 |nil=>rfl
 |cons x l a=>exact mI a rfl
theorem qC(h:l.length<64):uK g .sorted (.md t (iv l)<|ones l)=some (.ml none<|iv<|gf l):=bI (pL l) ((if_pos (by rw[im];exact h)).trans (by rw[CU,bD];rfl))
inductive As(R:List PV):Nat->List Nat->Prop
 |never:As R 2 []
 |one {t:Nat} {k:Int} {a:List PV} (h:R[t]?=some (.tup<|.int k::a)) (c:k≠6) (b:t≠2):As R t [t]
 |union {t:Nat} {l:List Nat} {a:List PV} (h:R[t]?=some (.tup<|.int 6::.tup (iv l)::a)) (b:t≠2):As R t l
inductive Pl(R:List PV):Nat->Int->Prop
 |other {t:Nat} {k:Int} {a:List PV} (h:R[t]?=some (.tup<|.int k::a)) (d:([2,3,4,5,8].any λi=>decide<|i=k)=false) (c:k≠18):Pl R t (-1)
 |bool {t:Nat} {b:PV} (h:R[t]?=some (.tup [.int 2,b,.int 0])):Pl R t (-1)
 |str {t:Nat} {b:PV} (h:R[t]?=some (.tup [.int 3,b,.int 0])):Pl R t 6
 |num {t:Nat} {b:PV} (h:R[t]?=some (.tup [.int 4,b,.int 0])):Pl R t 7
noncomputable def kO(l:List Nat):Int:=if 0∈l then 0 else if 13∈l then 13 else if 1∈l then 1 else -1
noncomputable def zy(l:List Nat)(w:Int):Bool:=if w<0 then false else decide (w.toNat∈l)
abbrev tJ(o:Option Nat)(l:List Nat):RV:=.md o (iv l)<|ones l
section
variable{R:List PV} {g:List GO} {t:Nat} {w:Int}
theorem zp(h:As R t l):ai 10 [ak 0,ae t] (G R L) (dQ<|iv l) [none,none] (G R L):=by
 induction h with
 |never=>exact kf 9 [ob<|ao (g:=G R L) (i:=2) (j:=2) rfl]
 |one h b a=>exact kf 9 [ob<|ao (g:=G R L)<|jc a,op<|bj (L:=L) h,od,ob<|ao (g:=G R L) (j:=6)<|decide_eq_false b]
 |union h a=>exact kf 9 [ob<|ao (g:=G R L)<|jc a,op<|bj (L:=L) h,od,ob<|ao (g:=G R L) (i:=6) (j:=6) rfl,od]
theorem vi{p:Nat}(h:p∉l):oF (.v 1) [.aN (.cmp .In (.v 1)<|.v 0) [.ret<|.v 1] []] (.int (p:Int)) ⟨[some<|tJ (some 0) l,x],g⟩ ⟨[some<|tJ (some 0) l,some<|ae p],g⟩:=kt 9 [ob<|nK (g:=g) (t:=some 0)<|decide_eq_false h]
theorem G6{p:Nat}(h:p∈l):Ok (λf=>forTurn f (.v 1) [.aN (.cmp .In (.v 1)<|.v 0) [.ret<|.v 1] []] (.int (p:Int)) ⟨[some<|tJ (some 0) l,x],g⟩) (some<|.ret<|ae p,⟨[some<|tJ (some 0) l,some<|ae p],g⟩):=Sv 9 [ob<|nK (g:=g) (t:=some 0)<|decide_eq_true h]
theorem P':ai 15 [tJ (some 0) l] g (ae<|kO l) [some<|tJ (some 0) l] g:=by
 delta kO;by_cases a:0∈l
 .rw[if_pos a];exact kf 9 [ol<|tM (src:=.l [.int 0,.int 13,.int 1])<|kU<|G6 (g:=g) (x:=none) a]
 rw[if_neg a];by_cases b:13∈l
 .rw[if_pos b];exact kf 9 [ol<|tM (src:=.l [.int 0,.int 13,.int 1])<|aQ (vi (g:=g) (x:=none) a)<|kU<|G6 b]
 rw[if_neg b];by_cases c:1∈l
 .rw[if_pos c];exact kf 9 [ol<|tM (src:=.l [.int 0,.int 13,.int 1])<|aQ (vi (g:=g) (x:=none) a)<|aQ (vi b)<|kU<|G6 c]
 rw[if_neg c];exact kf 9 [ol<|tM (src:=.l [.int 0,.int 13,.int 1])<|aQ (vi (g:=g) (x:=none) a)<|aQ (vi b)<|aQ (vi c) cT]
theorem IZ{p:Nat}(h:p∈l)(a:l.length<az):Ok (λf=>cH f (.asg (.sub (.v 0)<|.c<|.int (p:Int)) bJ) ⟨[some<|tJ (some 0) l],g⟩) (.dK,⟨[some<|tJ (some 0) l],g⟩):=Ii rfl (ke 5 []) a ((congrArg (λz=>(Op.pl 0).store ⟨[some<|tJ (some 0) l],g⟩<|tJ none z)<|if_pos h).trans rfl)
theorem Ny(d:14∉l)(c:15∉l)(e:l.length<az):ai 13 [tJ (some 0) l] g (.v .none) [some<|tJ (some 0) l] g:=by
 by_cases a:8∈l
 .by_cases b:9∈l
  .exact kf 9 [ob<|nK (g:=g) (t:=some 0)<|decide_eq_true a,ob<|nK (g:=g) (t:=some 0)<|decide_eq_true b,os<|IZ (g:=g) a e,os<|IZ (g:=g) b e]
  .exact kf 9 [ob<|nK (g:=g) (t:=some 0)<|decide_eq_true a,ob<|nK (g:=g) (t:=some 0)<|decide_eq_false b,ob<|nK (g:=g) (t:=some 0)<|decide_eq_false c]
 .exact kf 9 [ob<|nK (g:=g) (t:=some 0)<|decide_eq_false a,ob<|nK (g:=g) (t:=some 0)<|decide_eq_false d]
theorem SF(h:Pl R t w):ai 12 [ak 0,ae t] (G R L) (ae (-1)) [none,none] (G R L):=by
 induction h with
 |other h a=>exact kf 9 [op<|bj (L:=L) h,od,ob<|pN (g:=G R L) (l:=[2,3,4,5,8]) a]
 |bool h=>exact kf 9 [op<|bj (L:=L) h,od,ob<|pN (g:=G R L) (l:=[2,3,4,5,8]) (k:=2) rfl,od,ob<|ao (g:=G R L) (i:=0) (j:=1) rfl]
 |str h=>exact kf 9 [op<|bj (L:=L) h,od,ob<|pN (g:=G R L) (l:=[2,3,4,5,8]) (k:=3) rfl,od,ob<|ao (g:=G R L) (i:=0) (j:=1) rfl]
 |num h=>exact kf 9 [op<|bj (L:=L) h,od,ob<|pN (g:=G R L) (l:=[2,3,4,5,8]) (k:=4) rfl,od,ob<|ao (g:=G R L) (i:=0) (j:=1) rfl]
inductive WhE(R:List PV)(g:List GO)(t:Nat)(w:Int):Prop
 |mk (r:List PV) (h:R[t]?=some (.tup r)) (e:ai 11 [dQ r] g (ae w) [none] g):WhE R g t w
theorem Pl.whole (h:Pl R t w) (g):WhE R g t w:=by
 have q:∀{k j:Int},([2,3,4,5,8].any λi=>decide<|i=k)=false->j∈[2,3,4,5,8]->decide (k=j)=false:=λ{k j} h m=>decide_eq_false λe=>dI.mp h j m<|decide_eq_true e.symm
 induction h with
 |other h z u=>exact⟨_,h,kf 9 [od,ob<|ao (g:=g)<|q (j:=3) z (by decide),ob<|ao (g:=g)<|decide_eq_false u,ob<|ao (g:=g)<|q (j:=4) z (by decide),ob<|ao (g:=g)<|q (j:=5) z (by decide)]⟩
 |bool h=>exact⟨_,h,kf 9 [od,ob<|ao (g:=g) (i:=2) (j:=3) rfl,ob<|ao (g:=g) (i:=2) (j:=18) rfl,ob<|ao (g:=g) (i:=2) (j:=4) rfl,ob<|ao (g:=g) (i:=2) (j:=5) rfl]⟩
 |str h=>exact⟨_,h,kf 9 [od,ob<|ao (g:=g) (i:=3) (j:=3) rfl]⟩
 |num h=>exact⟨_,h,kf 9 [od,ob<|ao (g:=g) (i:=4) (j:=3) rfl,ob<|ao (g:=g) (i:=4) (j:=18) rfl,ob<|ao (g:=g) (i:=4) (j:=4) rfl]⟩
theorem Mu(h:Pl R t w):aS g .NotIn (ae w) (tJ o l)=some (!zy l w):=by
 induction h with
 |other=>exact pq
 |bool=>exact pq
 |str=>exact tB (p:=6) decide_not
 |num=>exact tB (p:=7) decide_not
theorem Nu(h:Pl R t w):ai 14 [ak 0,tJ (some 1) l,ae t] (G R L) (dj<|!zy l w) [none,some<|tJ (some 1) l,none] (G R L):=by
 obtain⟨r,b,a⟩:=h.whole<|G R L
 exact kf 9 [oc<|SF (L:=L) h,ob<|vD (g:=G R L) (l:=l) (t:=some 1),op<|bj (L:=L) b,oc a,ob<|Mu (g:=G R L) (l:=l) (o:=some 1) h]
noncomputable def qq(R:List PV)(t:Nat):Int:=match R[t]? with
 |some (.tup (.int k::_))=>if k=3 then 6 else if k=4 then 7 else -1
 |_=> -1
theorem Pl.is (h:Pl R t w):qq R t=w:=by
 delta qq;induction h with
 | @other k C h z u=>
  have q:∀{j:Int},j∈[2,3,4,5,8]->k≠j:=λ{j} m e=>dI.mp z j m<|decide_eq_true e.symm
  exact h▸(if_neg<|q (j:=3) (by decide)).trans (if_neg<|q (j:=4) (by decide))
 |bool h=>rw[h];rfl
 |str h=>rw[h];rfl
 |num h=>rw[h];rfl
end
def fJ(P:List (List Nat)):List Nat:=P.flatten.foldl fp []
def l8(R:List PV)(a:List Nat):List Nat:=(gf a).filter λt=>!zy a (qq R t)
def yU(R:List PV):List Nat->Nat×List PV
 |[]=>(2,R)
 |[t]=>(t,R)
 |l=>oe R<|.tup [.int 6,.tup<|iv l]
def dC(R:List PV)(P:List (List Nat)):Nat×List PV:=if 0<=kO (fJ P)then((kO<|fJ P).toNat,R)else yU R (l8 R<|fJ P)
theorem iw(l)(p):(fp l p).length<=l.length+1:=by
 delta fp;split
 .exact Tm _
 .exact EQ ch
theorem gG{m:List Nat}:∀(l),(m.foldl fp l).length<=l.length+m.length:=by
 induction m with
 |nil=>exact λl=>v6 _
 |cons p m a=>exact λl=>am (a<|fp l p)<|am (lf (iw l p) _)<|EQ (kN ..)
theorem pA:q∈fp l p↔q∈l\/q=p:=by
 delta fp;split
 .rename_i h;exact⟨.inl,λz=>z.elim id λe=>e▸h⟩
 .exact TD.trans<|or_congr .rfl wP
theorem lY{m:List Nat}:∀{l},q∈m.foldl fp l↔q∈l\/q∈m:=by
 induction m with
 |nil=>exact λ{l}=>⟨.inl,λh=>h.elim id λh=>nomatch h⟩
 |cons p m a=>exact λ{l}=>a.trans<|(or_congr pA .rfl).trans<|or_assoc.trans<|or_congr .rfl rc.symm
theorem gC:q∈fJ P↔q∈P.flatten:=lY.trans ⟨λh=>h.elim (λh=>nomatch h) id,.inr⟩
theorem tI:q∈tZ x l↔q=x\/q∈l:=by
 induction l with
 |nil=>exact rc
 |cons y l a=>
  show q∈(if x<=y then x::y::l else y::tZ x l)↔_;split
  .exact rc
  .rw[rc,a,rc,or_left_comm]
theorem d7:q∈gf l↔q∈l:=by
 induction l with
 |nil=>exact .rfl
 |cons x l a=>exact tI.trans<|(or_congr .rfl a).trans rc.symm
theorem zv(x)(l):(tZ x l).length=l.length+1:=by
 induction l with
 |nil=>rfl
 |cons y l a=>
  show(if x<=y then x::y::l else y::tZ x l).length=_;split
  .rfl
  .exact congrArg dO a
theorem eF(l):(gf l).length=l.length:=by
 induction l with
 |nil=>rfl
 |cons x l a=>exact(zv x _).trans<|congrArg dO a
section
variable{g:List GO} {z5 z6 y:Option RV}
theorem Zs:∀{acc b},acc.length+ps.length<az->∃c,Ok (λf=>bb (forTurn f (.v 4) [.asg (.sub (.v 2)<|.v 4) bJ]) (iv ps) ⟨[z0,z1,some<|tJ none acc,z3,b,z5,z6,z7],g⟩) (none,⟨[z0,z1,some<|tJ none<|ps.foldl fp acc,z3,c,z5,z6,z7],g⟩):=by
 induction ps with
 |nil=>exact λ{acc b} _=>⟨b,cT⟩
 |cons p ps d=>
  intro acc b h;have a:=jU h;refine fN (d (acc:=fp acc p) (b:=some<|ae p)<|ac (lf (iw acc p) _) a.2.2) λc e=>?_
  exact⟨c,aQ (kt 9 [os<|Ii (rs:=[z0,z1,some<|tJ none acc,z3,some<|ae p,z5,z6,z7]) (g:=g) (p:=p) (i:=2) (k:=.v 4) (s:=⟨[z0,z1,some<|tJ none<|fp acc p,z3,some<|ae p,z5,z6,z7],g⟩) rfl (ke 5 []) a.1 rfl]) e⟩
theorem Vk{ts}(d:bc (As R) ts P):∀{acc a b},acc.length+P.flatten.length<az->∃o m,Km (.v 3) [.bB (.v 4) (.call 10 [.v 0,.v 3]) [.asg (.sub (.v 2)<|.v 4) bJ]] (λs=>s.g=G R L) (iv ts) ⟨[some<|ak 0,y,some<|tJ none acc,a,b,none,none,none],G R L⟩ (none,⟨[some<|ak 0,y,some<|tJ none<|P.flatten.foldl fp acc,o,m,none,none,none],G R L⟩):=by
 induction d with
 |nil=>exact λ{acc a b} _=>⟨a,b,.nil rfl⟩
 | @cons t ps ts P e p c=>
  intro acc a b h;rw[cf,ch,<-wn]at h;refine fN (Zs (g:=G R L) (z0:=some<|ak 0) (z1:=y) (z3:=some<|ae t) (z5:=none) (z6:=none) (z7:=none) (ps:=ps) (acc:=acc) (b:=b)<|ac (pp ..) h) λk i=>?_
  refine jF (c (acc:=ps.foldl fp acc) (a:=some<|ae t) (b:=k)<|ac (lf (gG acc) _) h) λn j f=>?_
  exact⟨n,j,by refine cf▸List.foldl_append▸?_;exact .cons rfl (kt 9 [oc<|zp (L:=L) e,ol<|cz (src:=.l<|iv ps) i]) f⟩
abbrev Po(y a b z5 z6:Option RV)(c:List Nat)(g:List GO):St:=⟨[some<|ak 0,y,some<|tJ none c,a,b,z5,z6,none],g⟩
theorem Q4(d:c.length<64)(k:∀p∈c,Pl R p<|qq R p):Ok (λf=>f.e (.comp (.v 7) [(.v 7,.bi .sorted<|.v 2,[.call 14 [.v 0,.v 2,.v 7]])])<|Po y a b z5 none c<|G R L) (.ml none<|iv<|l8 R c,Po y a b z5 none c<|G R L):=by
 obtain⟨i,h⟩:=xd (j:=7) (cs:=[.call 14 [.v 0,.v 2,.v 7]]) (elt:=.v 7) (rs:=(Po y a b z5 none c<|G R L).r) (g:=G R L) (qs:=gf c) (out:=[]) (y:=none) (p:=λt=>!zy c (qq R t)) (F:=λt=>.int (t:Int)) (by rw[eF,tz,ss];exact Ev d (by decide)) (λq m=>jk<|kb 9 [oc<|Nu (L:=L) (l:=c)<|k q<|d7.mp m,od]) λq _ _=>ke 5 []
 exact fR (t:=.v 7) (s:=Po y a b z5 none c<|G R L) (s1:=Po y a b z5 none c<|G R L) (s':=⟨(Po y a b z5 none c<|G R L).r.set 7 i,G R L⟩) (src:=.l<|iv<|gf c) (x:=.ml none<|iv<|gf c) (out:=iv<|l8 R c) (it:=.bi .sorted<|.v 2) rfl (ke 5 [ov<|qC (g:=G R L) (t:=none) d]) rfl h
theorem I5(n)(l):(iv l).all (isKey n)=true:=bv.mpr λx m=>(to.mp m).elim λk h=>h.2▸(match n with|0=>rfl|_+1=>rfl)
theorem mi(l):isKey 6 (.tup [.int 6,.tup<|iv l])=true:=by
 show((isKey 5<|.int 6)&&((iv l).all (isKey 4)&&true))=true
 rw[I5];rfl
theorem zl{ts}(J:bq (G R L) 1 x (iv ts))(N:bc (As R) ts P)(E:∀p∈P.flatten,Pl R p<|qq R p)(s:∀p∈P.flatten,p≠14/\p≠15)(c:P.flatten.length<64)(Q:R.length<az):ai 16 [ak 0,x] (G R L) (ae (dC R P).1) [none,none] (G (dC R P).2 L):=by
 have M:(64:Nat)<az:=by decide
 have n:(fJ P).length<64:=ac (gG [])<|(ss _).symm▸c
 refine jF (Vk (L:=L) (y:=some<|.v x.eJ) N (acc:=[]) (a:=none) (b:=none)<|(ss _).symm▸Ev c M) λa b O=>?_
 have D:=ou (i:=1) (rs:=[some<|ak 0,some x,some<|tJ none [],none,none,none,none,none]) J rfl O
 have w:∀z5 z6 C,pQ [ak 0,x] (Po (some<|.v x.eJ) a b z5 z6 (fJ P) C) (.ret<|ae (dC R P).1)=some (ae (dC R P).1,[none,none],C):=λz5 z6 C=>congrArg (λz=>some (RV.v<|.int (dC R P).1,none::z,C))<|J.back rfl []
 have u:∀{z5 z6},Ok (λf=>f.iT Tj.body ⟨[some<|ak 0,some x,none,none,none,none,none,none],G R L⟩) (.ret<|ae (dC R P).1,Po (some<|.v x.eJ) a b z5 z6 (fJ P)<|G (dC R P).2 L)->ai 16 [ak 0,x] (G R L) (ae (dC R P).1) [none,none] (G (dC R P).2 L):=λh=>ND (fd:=Tj) rfl rfl rfl h<|w _ _ _
 by_cases r:0<=kO (fJ P)
 .have e:dC R P=((kO<|fJ P).toNat,R):=if_pos r
  refine u (z5:=some<|ae<|kO<|fJ P) (z6:=none) ?_
  rw[e,show(((kO<|fJ P).toNat:Nat):Int)=kO (fJ P) from js r]
  exact kl 20 [os D,oc<|P' (g:=G R L) (l:=fJ P),ob<|JK (g:=G R L)<|decide_eq_true r]
 .have e:dC R P=yU R (l8 R<|fJ P):=if_neg r
  have d:(l8 R<|fJ P).length<64:=ac (am (aT _ _)<|EQ<|eF _) n
  have k:=Q4 (L:=L) (y:=some<|.v x.eJ) (a:=a) (b:=b) (z5:=some<|ae<|kO<|fJ P) n λp m=>E p<|gC.mp m
  have I:=P' (g:=G R L) (l:=fJ P);have H:=JK (g:=G R L)<|decide_eq_false r
  have F:=Ny (g:=G R L) (l:=fJ P) (λh=>(s 14<|gC.mp h).1 rfl) (λh=>(s 15<|gC.mp h).2 rfl)<|Ev n M
  refine u (z5:=some<|ae<|kO<|fJ P) (z6:=some<|.ml none<|iv<|l8 R<|fJ P) ?_
  refine e▸?_;generalize l8 R (fJ P)=o at k d⊢
  match o,d,k with
  |[],_,k=>exact kl 20 [os D,oc I,ob H,oc F,ox k,od]
  |[t],_,k=>exact kl 20 [os D,oc I,ob H,oc F,ox k,od,od,ob<|ao (g:=G R L) (i:=1) (j:=1) rfl,od]
  |t::A::l,c,k=>
   have e:((iv<|t::A::l).length:Int)=((l.length+2:Nat):Int):=congrArg Al<|aJ _
   exact kl 20 [os D,oc I,ob H,oc F,ox k,od,od,ob (ao (g:=G R L) (i:=((iv (t::A::l)).length:Int)) (j:=1) (decide_eq_false λq=>nomatch mN (e.symm.trans q))),od,ob (show aS (G R L) .Gt (ae ((iv (t::A::l)).length:Int)) (ae 400)=some false from congrArg some (decide_eq_false λq=>absurd (Ev (aV.mp (e▸q)) c) (by decide))),od,oc (pD (L:=L) (mi (t::A::l)) Q)]
end
abbrev we(l:List Nat):Prop:=l.Pairwise (· < ·)
theorem we.ext:∀{l m},we l->we m->(∀q,q∈l↔q∈m)->l=m
 |[],[],_,_,_=>rfl
 |[],y::m,_,_,h=>absurd ((h y).mpr<|.head _) (by simp)
 |x::l,[],_,_,h=>absurd ((h x).mp<|.head _) (by simp)
 |x::l,y::m,D,C,h=>by
  obtain⟨z,F⟩:=Tk.mp D;obtain⟨u,E⟩:=Tk.mp C;have e:x=y:=by
   rcases rc.mp ((h x).mp (.head _))with e|e
   .exact e
   .rcases rc.mp ((h y).mpr (.head _))with e'|e'
    .exact e'.symm
    .have:=u _ e;have:=z _ e';omega
  subst e;rw[we.ext F E λq=>?_];constructor
  .intro k;rcases rc.mp ((h q).mp (.tail _ k))with e|e
   .have:=z _ k;omega
   .exact e
  .intro k;rcases rc.mp ((h q).mpr (.tail _ k))with e|e
   .have:=u _ k;omega
   .exact e
theorem we.ins:∀{x},we l->x∉l->we (tZ x l):=by
 induction l with
 |nil=>exact@λx _ _=>Tk.mpr ⟨λ_ h=>(nomatch h),.nil⟩
 |cons y l E=>
  intro x C z;obtain⟨D,H⟩:=Tk.mp C;have F:x≠y:=λe=>z<|e▸.head _
  show we (if x<=y then x::y::l else y::tZ x l)
  split
  .refine Tk.mpr ⟨λq u=>?_,C⟩;rcases rc.mp u with e|e
   .omega
   .have:=D _ e;omega
  .refine Tk.mpr ⟨λq u=>?_,E H λh=>z<|.tail _ h⟩
   rcases tI.mp u with e|e
   .omega
   .exact D _ e
theorem we.sort:l.Nodup->we (gf l):=by
 induction l with
 |nil=>exact@λ_=>.nil
 |cons x l u=>intro h;obtain⟨C,z⟩:=Wp.mp h;exact we.ins (u z) λq=>C<|d7.mp q
theorem Bg(h:l.Nodup):(fp l p).Nodup:=by
 delta fp;split
 .exact h
 .rename_i d;exact GA.mpr ⟨h,by simp,λa f b c e=>by simp at c;exact d<|c▸e▸f⟩
theorem yV{m:List Nat}:∀{l},l.Nodup->(m.foldl fp l).Nodup:=by
 induction m with
 |nil=>exact@λ_ h=>h
 |cons p m a=>exact@λl h=>a<|Bg h
theorem tD(P):(fJ P).Nodup:=yV (by simp)
noncomputable def B:List PV:=[.tup [.int 1,.str ⟨#[97,110,121]⟩],.tup [.int 1,.str ⟨#[117,110,107,110,111,119,110]⟩],.tup [.int 1,.str ⟨#[110,101,118,101,114]⟩],.tup [.int 1,.str ⟨#[118,111,105,100]⟩],.tup [.int 1,.str ⟨#[117,110,100,101,102,105,110,101,100]⟩],.tup [.int 1,.str ⟨#[110,117,108,108]⟩],.tup [.int 1,.str ⟨#[115,116,114,105,110,103]⟩],.tup [.int 1,.str ⟨#[110,117,109,98,101,114]⟩],.tup [.int 2,.int 0,.int 0],.tup [.int 2,.int 1,.int 0],.tup [.int 1,.str ⟨#[111,98,106,101,99,116]⟩],.tup [.int 8,.tup [],.tup [],.tup [],.tup [],.tup [],.int 0],.tup [.int 6,.tup [.int 8,.int 9]],.tup [.int 1,.str ⟨#[101,114,114,111,114]⟩],.tup [.int 2,.int 0,.int 1],.tup [.int 2,.int 1,.int 1],.tup [.int 10,.int 0],.tup [.int 3,.str ⟨#[97]⟩,.int 0],.tup [.int 3,.str ⟨#[98]⟩,.int 0],.tup [.int 4,.int 1,.int 0],.tup [.int 4,.int 2,.int 0],.tup [.int 5,.int 1,.str ⟨#[65]⟩,.int 1,.int 0],.tup [.int 8,.tup [.tup [.str ⟨#[120]⟩,.int 6,.int 0,.int 0]],.tup [],.tup [],.tup [],.tup [],.int 0]]
noncomputable def dW:List (Nat×Nat):=[(0,11),(1,12),(3,10),(4,9),(5,8),(6,2),(7,5),(8,6),(9,7),(17,0),(18,1),(19,3),(20,4)]
def af(m:Nat):List Nat:=(dW.filter λa=>m.testBit a.2).map λa=>a.1
theorem kc(m):we (af m):=UR (l₂:=dW.map λa=>a.1) (by delta af;exact Ep.map _) (by decide)
theorem d8:q∈af m↔∃b,(q,b)∈dW/\m.testBit b=true:=by
 delta af;refine to.trans ?_;constructor
 .rintro⟨⟨a,b⟩,h,rfl⟩;exact⟨b,(Re.mp h).1,(Re.mp h).2⟩
 .rintro⟨b,h,k⟩;exact⟨(q,b),Re.mpr ⟨h,k⟩,rfl⟩
def Tb(R:List PV):Prop:=∃X,R=B++X
theorem Tb.at (h:Tb R) {i:Nat} (e:B[i]?=some x):R[i]?=some x:=by obtain⟨X,rfl⟩:=h;refine(IR (ty.mp e).1).trans ?_;exact e
def bz(R:List PV):List Nat->Nat->Prop
 |[],t=>t=2
 |[a],t=>t=a
 |a::b::l,t=>aM (.tup [.int 6,.tup<|iv<|a::b::l]) R=some t
theorem bz.inj (h:bz R l t) (q:bz R l u):t=u:=by
 match l,h,q with
 |[],h,q=>exact h.trans q.symm
 |[_],h,q=>exact h.trans q.symm
 |_::_::_,h,q=>exact bn<|h.symm.trans q
theorem bz.app (h:bz R l t):bz (R++X) l t:=by
 match l,h with
 |[],h=>exact h
 |[_],h=>exact h
 |_::_::_,h=>exact kh h
def KM(R:List PV)(m t:Nat):Prop:=bz R (af m) t
def X9(n:Nat)(X:List PV):Prop:=X.length<=n/\∀x∈X,isKey 6 x=true
theorem FF:X9 n []:=⟨Rs _,λ_ h=>nomatch h⟩
theorem gh(b:isKey 6 a=true):∃X,(oe R a).2=R++X/\X9 1 X/\aM a (oe R a).2=some (oe R a).1:=by
 delta oe;induction h:aM a R with
 |some i=>exact⟨[],(u8 R).symm,FF,h⟩
 |none=>exact⟨[a],rfl,⟨v6 _,λx m=>wP.mp m▸b⟩,FE (PV.pV 6 b) h⟩
theorem qJ(R)(l):∃X,(yU R l).2=R++X/\X9 1 X/\bz (yU R l).2 l (yU R l).1:=by
 match l with
 |[]=>exact⟨[],(u8 R).symm,FF,rfl⟩
 |[_]=>exact⟨[],(u8 R).symm,FF,rfl⟩
 |a::b::l=>exact gh<|mi<|a::b::l
noncomputable def orM(a:List Nat):Nat:=a.foldl (· ||| ·) 0
noncomputable def au(M:Nat):Nat:=if M.testBit 11 then 2048 else if M.testBit 12 then 4096 else(M&&&(if M.testBit 2 then 8188 else 8191))&&&(if M.testBit 5 then 8167 else 8191)
noncomputable def qu(q:Nat):Int:=if q=17\/q=18 then 6 else if q=19\/q=20 then 7 else -1
theorem O8{P:Nat×Nat->Prop}(o:P (0,11))(n:P (1,12))(l:P (3,10))(k:P (4,9))(j:P (5,8))(i:P (6,2))(h:P (7,5))(g:P (8,6))(f:P (9,7))(e:P (17,0))(d:P (18,1))(c:P (19,3))(b:P (20,4)):∀a∈dW,P a:=by intro a m;simp only[dW,rc,eA,or_false]at m;rcases m with rfl|rfl|rfl|rfl|rfl|rfl|rfl|rfl|rfl|rfl|rfl|rfl|rfl<;>assumption
theorem Tb.atom (h:Tb R):∀a∈dW,Pl R a.1 (qu a.1)/\As R a.1 [a.1]:=O8 ⟨.other (h.at rfl) rfl (by decide),.one (h.at rfl) (by decide) (by decide)⟩ ⟨.other (h.at rfl) rfl (by decide),.one (h.at rfl) (by decide) (by decide)⟩ ⟨.other (h.at rfl) rfl (by decide),.one (h.at rfl) (by decide) (by decide)⟩ ⟨.other (h.at rfl) rfl (by decide),.one (h.at rfl) (by decide) (by decide)⟩ ⟨.other (h.at rfl) rfl (by decide),.one (h.at rfl) (by decide) (by decide)⟩ ⟨.other (h.at rfl) rfl (by decide),.one (h.at rfl) (by decide) (by decide)⟩ ⟨.other (h.at rfl) rfl (by decide),.one (h.at rfl) (by decide) (by decide)⟩ ⟨.bool (h.at rfl),.one (h.at rfl) (by decide) (by decide)⟩ ⟨.bool (h.at rfl),.one (h.at rfl) (by decide) (by decide)⟩ ⟨.str (h.at rfl),.one (h.at rfl) (by decide) (by decide)⟩ ⟨.str (h.at rfl),.one (h.at rfl) (by decide) (by decide)⟩ ⟨.num (h.at rfl),.one (h.at rfl) (by decide) (by decide)⟩ ⟨.num (h.at rfl),.one (h.at rfl) (by decide) (by decide)⟩
theorem cP(h:q∈af m):∃b,(q,b)∈dW:=by refine aO (d8.mp h) λb h _=>?_;exact⟨b,h⟩
theorem O7(h:(q,b)∈dW)(d:(q,c)∈dW):b=c:=(by decide:∀a∈dW,∀c∈dW,a.1=c.1->a.2=c.2) (q,b) h (q,c) d rfl
theorem ik(h:(q,b)∈dW):q∈af m↔m.testBit b=true:=by
 refine d8.trans ?_;constructor
 .rintro⟨c,a,k⟩;exact(O7 h a)▸k
 .exact λk=>⟨b,h,k⟩
theorem jG(ms:List Nat):∀(a),(ms.foldl (· ||| ·) a).testBit b=(a.testBit b||ms.any λm=>m.testBit b):=by
 induction ms with
 |nil=>intro a;simp
 |cons m ms c=>
  intro a;show(ms.foldl (· ||| ·)<|a|||m).testBit b=_
  rw[c,Gc,oQ,Bool.or_assoc]
theorem MQ:q∈af (orM d)↔∃m∈d,q∈af m:=by
 constructor
 .intro h;refine aO (d8.mp h) λb c k=>?_;unfold orM at k;rw[jG,La,Os,P3]at k;refine aO k λm a k=>?_;exact⟨m,a,d8.mpr ⟨b,c,k⟩⟩
 .rintro⟨m,a,h⟩;refine aO (d8.mp h) λb c k=>?_;refine d8.mpr ⟨b,c,?_⟩;delta orM;rw[jG,La,Os,P3];exact⟨m,a,k⟩
theorem sk:q∈fJ (c.map af)↔q∈af (orM c):=by
 rw[gC,iA,MQ];constructor
 .rintro⟨l,d,h⟩;refine aO (to.mp d) λm b a=>?_;subst a;exact⟨m,b,h⟩
 .rintro⟨m,b,h⟩;exact⟨_,to.mpr ⟨m,b,rfl⟩,h⟩
noncomputable def hw2(w:Int)(x y:Bool):Bool:=if w=6 then x else if w=7 then y else false
theorem NS(c:zy a 6=x)(b:zy a 7=y)(q):zy a (qu q)=hw2 (qu q) x y:=by
 delta qu;split
 .exact c
 .split
  .exact b
  .rfl
noncomputable def mT(x:Bool):Nat:=if x=true then 8188 else 8191
noncomputable def mF(x:Bool):Nat:=if x=true then 8167 else 8191
theorem MW:∀a∈dW,∀x y:Bool,(!hw2 (qu a.1) x y)=((mT x).testBit a.2&&(mF y).testBit a.2):=by decide
theorem mX(c:M.testBit 11=false)(a:M.testBit 12=false)(b):(au M).testBit b=(M.testBit b&&((mT<|M.testBit 2).testBit b&&(mF<|M.testBit 5).testBit b)):=by delta au;rw[c,a,if_neg xz,if_neg xz,Pb,Pb,Bool.and_assoc];rfl
theorem DL{a:List Nat}(c:∀q,q∈a↔q∈af M)(h:(p,b)∈dW):decide (p∈a)=M.testBit b:=by
 have k:=(c p).trans<|ik (m:=M) h
 induction e:M.testBit b with
 |true=>exact decide_eq_true<|k.mpr e
 |false=>exact decide_eq_false λq=>ff<|e.symm.trans<|k.mp q
theorem Fe(l:Tb R)(s:d.Nodup)(g:∀q,q∈d↔q∈af M)(j:M.testBit 11=false)(i:M.testBit 12=false):l8 R d=af (au M):=by
 have r:=(we.sort s).ext (kc M) λq=>d7.trans<|g q
 delta l8;rw[r];refine we.ext ((kc M).sublist Ep) (kc _) λq=>?_;refine Re.trans ?_;have e:∀a∈dW,(M.testBit a.2=true/\(!zy d (qu a.1))=true)↔(au M).testBit a.2=true:=λa m=>by rw[<-sB,NS (DL g (p:=6) (b:=2) (by decide))<|DL g (p:=7) (b:=5) (by decide),MW a m,mX j i]
 constructor
 .rintro⟨h,k⟩;obtain⟨b,c,f⟩:=d8.mp h;rw[(l.atom _ c).1.is]at k;exact d8.mpr ⟨b,c,(e _ c).mp ⟨f,k⟩⟩
 .intro h;refine aO (d8.mp h) λb c f=>?_;obtain⟨o,n⟩:=(e _ c).mpr f;exact⟨d8.mpr ⟨b,c,o⟩,by rw[(l.atom _ c).1.is];exact n⟩
theorem KM.YK (u:Tb R) (h:KM R m t):As R t (af m):=by
 delta KM at h;have z:= @cP m
 match e:af m,h with
 |[],h=>have h:=h;subst h;exact .never
 |[a],h=>
  have h:=h;subst h;obtain⟨b,C⟩:=z (q:=t) (by exact e▸.head _)
  exact(u.atom _ C).2
 |a::b::l,h=>have h:=h;refine .union (aK h) ?_;rintro rfl;have:=aK h;replace this:=(u.at (i:=2) rfl)▸this;cases this
theorem Kf(c:Tb R){ts}(h:bc (λt m=>KM R m t) ts a):bc (As R) ts (a.map af):=by
 induction h with
 |nil=>exact .nil
 |cons h _ b=>exact .cons (h.YK c) b
theorem y7{c:List Nat}(h:q∈(c.map af).flatten):∃b,(q,b)∈dW:=by refine aO (iA.mp h) λl d h=>?_;refine aO (to.mp d) λm _ a=>?_;subst a;exact cP h
theorem xQ(h:(q,b)∈dW):q≠2/\q≠13/\q≠14/\q≠15:=(by decide:∀a∈dW,a.1≠2/\a.1≠13/\a.1≠14/\a.1≠15) (q,b) h
theorem AM(o:Tb R)(a):∃X,(dC R<|a.map af).2=R++X/\X9 1 X/\KM (R++X) (au<|orM a) (dC R<|a.map af).1:=by
 have l:(0∈fJ (a.map af))↔(orM a).testBit 11=true:=sk.trans<|ik (by decide)
 have k:(1∈fJ (a.map af))↔(orM a).testBit 12=true:=sk.trans<|ik (by decide)
 have g:13∉fJ (a.map af):=λh=>by
  obtain⟨b,n⟩:=cP<|sk.mp h
  exact(xQ n).2.1 rfl
 induction c:(orM a).testBit 11 with
 |true=>
  have e:kO (fJ<|a.map af)=0:=by delta kO;exact(if_pos<|l.mpr c)
  have f:au (orM a)=2048:=by delta au;rw[c];rfl
  have u:dC R (a.map af)=(0,R):=by delta dC;rw[e];rfl
  exact u▸f▸⟨[],(u8 R).symm,FF,by delta KM;rw[show af 2048=[0] by decide];rfl⟩
 |false=>
  have i:0∉fJ (a.map af):=λq=>by replace c:=(l.mp q)▸c;cases c
  induction d:(orM a).testBit 12 with
  |true=>
   have e:kO (fJ<|a.map af)=1:=by delta kO;rw[if_neg i,if_neg g,if_pos<|k.mpr d]
   have f:au (orM a)=4096:=by delta au;rw[c,d];rfl
   have u:dC R (a.map af)=(1,R):=by delta dC;rw[e];rfl
   rw[u,f];exact⟨[],(u8 R).symm,FF,by delta KM;rw[show af 4096=[1] by decide];rfl⟩
  |false=>
   have m:1∉fJ (a.map af):=λq=>by replace d:=(k.mp q)▸d;cases d
   have e:kO (fJ<|a.map af)= -1:=by delta kO;rw[if_neg i,if_neg g,if_neg m]
   have u:dC R (a.map af)=yU R (af<|au<|orM a):=by delta dC;rw[e,Fe o (tD _) (λq=>sk) c d];rfl
   rw[u];refine eV (qJ R<|af<|au<|orM a) λX e p j=>?_
   exact⟨X,e,p,by delta KM;rw[e]at j;exact j⟩
noncomputable def gu(q:Nat):Int:=if q=3 then 6 else if q=4 then 5 else if q=5 then 4 else if q=6\/q=17\/q=18 then 1 else if q=7\/q=19\/q=20 then 2 else if q=8\/q=9 then 3 else 0
theorem N1(n)(X)(L):(dW.map λa=>(ev FT CT<|n+30).call 20 [ak 0,ae (a.1:Int)]<|G (B++X) L)=dW.map λa=>some (ae<|gu a.1,[none,none],G (B++X) L):=by kernel_rfl
noncomputable def lQ(q:Nat):PV:=if q=4 then .tup [.int 5,.int 0]else if q=5 then .tup [.int 4,.int 0]else if q=8 then .tup [.int 3,.int 0]else if q=9 then .tup [.int 3,.int 1]else
 if q=17 then .tup [.int 1,.str ⟨#[97]⟩]else if q=18 then .tup [.int 1,.str ⟨#[98]⟩]else if q=19 then .tup [.int 2,.int 1]else if q=20 then .tup [.int 2,.int 2]else .tup []
theorem Ln(n)(X)(L):(dW.map λa=>(ev FT CT<|n+40).call 48 [ak 0,ae (a.1:Int)]<|G (B++X) L)=dW.map λa=>some (.v<|lQ a.1,[none,none],G (B++X) L):=by kernel_rfl
theorem Mm(n)(X)(L):(dW.map λa=>(ev FT CT<|n+40).call 47 [ak 0,ae (a.1:Int)]<|G (B++X) L)=dW.map λa=>some (dj<|decide<|a.1<=5,[none,none],G (B++X) L):=by kernel_rfl
noncomputable def PH(a b:Nat):Bool:=decide<|a<=1\/b<=1\/a=b\/(a=3/\b=4)\/(a=4/\b=3)\/(a=6/\(b=17\/b=18))\/(b=6/\(a=17\/a=18))\/(a=7/\(b=19\/b=20))\/(b=7/\(a=19\/a=20))
theorem Rx(n)(X)(L):(dW.map λa=>dW.map λb=>(ev FT CT<|n+40).call 49 [ak 0,ae (a.1:Int),ae (b.1:Int),dj true]<|G (B++X) L)=dW.map λa=>dW.map λb=>some (dj<|PH a.1 b.1,[none,none,none,none],G (B++X) L):=by kernel_rfl
theorem Aq(h:∀k,(EV<|k+n).call b d g=some (x,c,a)):ai b d g x c a:=Ok.of n h
section
variable{q b m t:Nat}
noncomputable def pj(q:Nat):Bool:=decide<|2<=q
theorem HH(n)(X)(L):(dW.map λa=>(ev FT CT<|n+40).call 56 [ak 0,ae (a.1:Int)]<|G (B++X) L)=dW.map λa=>some (dj<|pj a.1,[none,none],G (B++X) L):=by kernel_rfl
theorem Ef{n:Nat}{x:Nat->RV}(d:Tb R)(c:(q,b)∈dW)(h:∀(n:Nat)(X:List PV)(L:List GO),(dW.map λa=>(ev FT CT<|n+40).call f [ak 0,ae (a.1:Int)]<|G (B++X) L)=dW.map λa=>some (x a.1,[none,none],G (B++X) L)):ai f [ak 0,ae q] (G R L) (x q) [none,none] (G R L):=d.elim λX e=>e▸Aq (n:=40) λn=>(dg _).symm▸ww.mp (h n X L) (q,b) c
theorem SH(c:Tb R)(a:(q,b)∈dW):ai 56 [ak 0,ae q] (G R L) (dj<|pj q) [none,none] (G R L):=Ef (n:=0) (x:=λq=>dj<|pj q) c a HH
theorem pG(c:Tb R)(a:(q,b)∈dW):ai 20 [ak 0,ae q] (G R L) (ae<|gu q) [none,none] (G R L):=Ef (n:=0) (x:=λq=>ae<|gu q) c a λn=>N1<|n+10
theorem xc(c:Tb R)(a:(q,b)∈dW):ai 48 [ak 0,ae q] (G R L) (.v<|lQ q) [none,none] (G R L):=Ef (n:=0) (x:=λq=>.v<|lQ q) c a Ln
theorem WQ(c:Tb R)(a:(q,b)∈dW):ai 47 [ak 0,ae q] (G R L) (dj<|decide<|q<=5) [none,none] (G R L):=Ef (n:=0) (x:=λq=>dj<|decide<|q<=5) c a Mm
theorem WM(f:Tb R)(a:(q,b)∈dW)(d:(p,c)∈dW):ai 49 [ak 0,ae q,ae p,dj true] (G R L) (dj<|PH q p) [none,none,none,none] (G R L):=f.elim λX e=>e▸Aq (n:=40) λn=>(dg _).symm▸ww.mp (ww.mp (Rx n X L) (q,b) a) (p,c) d
theorem fQ(a:Tb R)(h:KM R m t):ai 10 [ak 0,ae t] (G R L) (dQ<|iv<|af m) [none,none] (G R L):=zp<|h.YK a
theorem xj(i):aS g .In (ae i) (dQ [.int 4,.int 5,.int 6])=some (decide<|i=4\/i=5\/i=6):=by
 show some (TW (.int 4) (.int i)||(TW (.int 5) (.int i)||(TW (.int 6) (.int i)||false)))=_
 rw[fj,fj,fj,cB,<-bU,<-bU]
def E1(q:Nat):Bool:=decide<|gu q=4\/gu q=5\/gu q=6
theorem kX(m):(af m).length<az:=ac (by delta af;rw[im];exact aT _ _) (show dW.length<az by decide)
def PQ(m:Nat):Bool:=decide (af m≠[])&&(af m).all E1
theorem vZ{l:List Nat}:boolsOf (l.map λq=>.bool<|F q)=some (l.map F):=by
 induction l with
 |nil=>rfl
 |cons _ l a=>exact bI rfl<|mI a rfl
theorem all_map{l:List Nat}{t}:uK g .all (.ml t<|l.map λq=>.bool<|F q)=some (dj<|l.all F):=mI (bI (f:=boolsOf) rfl vZ) (by rw[Uo];rfl)
theorem Ab{l:List Nat}:(l.filter λ_=>true)=l:=cn.mpr λ_ _=>rfl
section
variable{e1 e2:Ex} {s:St} {a b:Bool}
theorem ow(h:Ok (λf=>f.e e1 s) (dj a,s))(g:Ok (λf=>f.e e2 s) (dj b,s)):Ok (λf=>f.e (.and [e1,e2]) s) (dj<|a&&b,s):=by
 refine Ok.up (h.two g (H:=λf=>zK f false [e1,e2] s) λf c d=>?_) λn=>oz ..;induction a with
 |true=>exact bI c<|bI rfl<|(if_neg iB).trans d
 |false=>exact bI c<|bI rfl<|if_pos rfl
end
abbrev Uv(t:Nat)(l:List Nat)(o:Option RV)(g:List GO):St:=⟨[some<|ak 0,some<|ae t,some<|dQ<|iv l,o],g⟩
theorem WR(n:Tb R)(h:KM R m t):ai 50 [ak 0,ae t] (G R L) (dj<|PQ m) [none,none] (G R L):=by
 have p:=fQ (L:=L) n h;have d:= @cP m;have k:=kX m;generalize af m=l at p d k;obtain⟨o,c⟩:=xd (j:=3) (cs:=[]) (elt:=.cmp .In (.call 20 [.v 0,.v 3])<|.c<|.tup [.int 4,.int 5,.int 6]) (rs:=(Uv t l none<|G R L).r) (g:=G R L) (qs:=l) (out:=[]) (y:=none) (p:=λ_=>true) (F:=λq=>.bool<|E1 q) ((ss _).symm▸k) (λ_ _=>d9) λq u _=>(d u).elim λb w=>ke 9 [oc<|pG (L:=L) n w,ob<|xj (g:=G R L)<|gu q]
 replace c:=Ab▸c;have x:=pH (s1:=Uv t l none<|G R L) (y:=dj<|l.all E1) rfl (eH (elt:=.cmp .In (.call 20 [.v 0,.v 3])<|.c<|.tup [.int 4,.int 5,.int 6]) (s:=Uv t l none<|G R L) (t:=.v 3) (i:=2) (src:=.l<|iv l) (s':=⟨(Uv t l none<|G R L).r.set 3 o,G R L⟩) rfl rfl c) all_map
 have z:Ok (λf=>f.e (.cmp .Gt (.bi .len<|.v 2) aH)<|Uv t l none<|G R L) (dj<|decide<|l≠[],Uv t l none<|G R L):=by
  induction l with
  |nil=>exact ke 9 [od,od]
  |cons a l=>exact ke 9 [od,ob<|show aS (G R L) .Gt (ae ((iv<|a::l).length:Int)) (ae 0)=some true from congrArg some<|decide_eq_true<|aV.mpr<|wv _]
 exact kf 20 [oc p,ox<|ow z x]
theorem IY(a:Tb R)(h:KM R m t):ai 57 [ak 0,ae t] (G R L) (dj<|(af m).all pj) [none,none] (G R L):=by
 obtain⟨d,c⟩:=xd (j:=2) (cs:=[]) (elt:=.call 56 [.v 0,.v 2]) (rs:=[some<|ak 0,some<|ae t,none]) (g:=G R L) (qs:=af m) (out:=[]) (y:=none) (p:=λ_=>true) (F:=λq=>.bool<|pj q) ((ss _).symm▸kX m) (λ_ _=>d9) λq e _=>(cP e).elim λb f=>ke 9 [oc<|SH (L:=L) a f]
 rw[Ab]at c;exact kf 20 [ox<|pH (s1:=⟨[some<|ak 0,some<|ae t,none],G R L⟩) (y:=dj<|(af m).all pj) rfl (fR (elt:=.call 56 [.v 0,.v 2]) (out:=(af m).map λq=>.bool<|pj q) (x:=dQ<|iv<|af m) (s:=⟨[some<|ak 0,some<|ae t,none],G R L⟩) (t:=.v 2) (src:=.l<|iv<|af m) (s1:=⟨[some<|ak 0,some<|ae t,none],G R L⟩) (s':=⟨[some<|ak 0,some<|ae t,d],G R L⟩) (it:=.call 10 [.v 0,.v 1]) rfl (ke 9 [oc<|fQ (L:=L) a h]) rfl c) all_map]
end
noncomputable def jQ(q:Nat):Bool:=decide<|q=4\/q=5\/8<=q
theorem GU(g):(dW.map λa=>aS g .Eq (.v<|lQ a.1)<|dQ [])=dW.map λa=>some<|!jQ a.1:=by kernel_rfl
theorem GS(g):(dW.map λa=>aS g .NotEq (.v<|lQ a.1)<|dQ [])=dW.map λa=>some<|jQ a.1:=by kernel_rfl
theorem Ey(g):(dW.map λa=>dW.map λb=>aS g .NotEq (.v<|lQ a.1)<|.v<|lQ b.1)=dW.map λa=>dW.map λb=>some<|!decide (a.1=b.1\/(jQ a.1=false/\jQ b.1=false)):=by kernel_rfl
theorem GV(g):((dW.filter λa=>jQ a.1).map λa=>gy g (.v<|lQ a.1)<|.int 0)=(dW.filter λa=>jQ a.1).map λa=>some<|.int<|gu a.1:=by kernel_rfl
theorem Va(a:(q,b)∈dW):aS g .Eq (.v<|lQ q) (dQ [])=some (!jQ q):=ww.mp (GU g) (q,b) a
theorem U'(a:(q,b)∈dW):aS g .NotEq (.v<|lQ q) (dQ [])=some (jQ q):=ww.mp (GS g) (q,b) a
theorem QY(d:(p,c)∈dW)(a:(q,b)∈dW):aS g .NotEq (.v<|lQ p) (.v<|lQ q)=some (!decide (p=q\/(jQ p=false/\jQ q=false))):=ww.mp (ww.mp (Ey g) (p,c) d) (q,b) a
theorem Pm(c:(q,b)∈dW)(a:jQ q=true):gy g (.v<|lQ q) (.int 0)=some (.int<|gu q):=ww.mp (GV g) (q,b)<|Re.mpr ⟨c,a⟩
noncomputable def mx:List Nat->Nat
 |[]=>0
 |x::l=>max x<|mx l
section
variable(LV:Nat->Nat)
def fuX(d:Ex->Nat):Ex->Nat
 |.and f=>mx<|f.map d
 |.or f=>mx<|f.map d
 |.tup f=>mx<|f.map d
 |.lst f=>mx<|f.map d
 |.vP _ j=>mx<|j.map d
 |.call m h=>max (LV m)<|mx<|h.map d
 |.new _ h=>max (max (LV 83)<|LV 85)<|mx<|h.map d
 |.nh o _ h=>max (max (LV 84)<|LV 86)<|max (d o)<|mx<|h.map d
 |.not e=>d e
 |.neg e=>d e
 |.bi _ e=>d e
 |.dw e _=>d e
 |.prom e=>d e
 |.bin _ a b=>max (d a)<|d b
 |.cmp _ a b=>max (d a)<|d b
 |.sub a b=>max (d a)<|d b
 |.ite c a b=>max (d c+1)<|max (d a+1)<|d b+1
 |.bm _ o h=>max (d o)<|mx<|h.map d
 |.sl o lo k=>max (d o)<|max ((lo.map d).getD 0)<|(k.map d).getD 0
 |.comp i l=>max (d i)<|mx<|l.map λg=>max (d g.2.1)<|mx<|g.2.2.map λe=>d e+1
 |_=>0
noncomputable def lB:Nat->Ex->Nat
 |0,_=>100000
 |d+1,e=>fuX LV (lB d) e+1
noncomputable def fuT(a:Ex->Nat):XZ->Nat
 |.sub o i=>max (a o)<|a i
 |.dw o _=>a o
 |_=>0
noncomputable def Tc:Nat->Sm->Nat
 |0,_=>100000
 |d+1,x=>match x with
  |.asg t e=>max (lB LV d e)<|fuT (lB LV d) t
  |.aug _ _ e=>lB LV d e
  |.bB _ f b=>max (lB LV d f)<|mx (b.map<|Tc d)+1
  |.g7 c b=>max (lB LV d c+1)<|mx (b.map<|Tc d)+1
  |.aN c a b=>max (lB LV d c+1)<|max (mx (a.map<|Tc d)+1)<|mx (b.map<|Tc d)+1
  |.ret e=>lB LV d e
  |.ex e=>lB LV d e
  |.bad=>0
def Uz(d:Nat)(b:List Sm):Nat:=mx (b.map<|Tc LV d)+1
end
def Le{a:Type}(o b:Option a):Prop:=∀r,o=some r->b=some r
theorem Le.rfl:Le o o:=λ_ h=>h
theorem Le.no:Le none o:=λ_ h=>nomatch h
theorem Le.bindM {q:F->Option E} (h:Le o z) (C:∀x,o=some x->Le (k x) (q x)):Le (o.bind k) (z.bind q):=λ_ e=>bE e λx u D=>bI (h x u)<|C x u _ D
theorem Le.bind {q:D->Option C} (h:Le o u) (z:∀x,Le (k x)<|q x):Le (o.bind k) (u.bind q):=h.bindM λx _=>z x
theorem Le.map {k:D->C} (h:Le o q):Le (o.map k) (q.map k):=λ_ e=>mE e λx z u=>mI (h x z) u
theorem Le.ite {p} [Decidable p] {a b u q:Option D} (C:Le a u) (z:Le b q):Le (if p then a else b) (if p then u else q):=by
 by_cases h:p
 .rw[if_pos h,if_pos h];exact C
 .rw[if_neg h,if_neg h];exact z
theorem V4(h:mx l<=m):∀x∈l,x<=m:=by
 induction l with
 |nil=>exact λ_ h=>nomatch h
 |cons x l a=>have h:=Da.mp h;exact λy b=>(rc.mp b).elim (λe=>e▸h.1)<|a h.2 y
theorem mxm{b:Type}{l:List b}{a}(h:mx (l.map a)<=m):∀x∈l,a x<=m:=λx c=>V4 h (a x)<|to.mpr ⟨x,c,rfl⟩
theorem yb{b:Type}{x l}{a:b->Nat}(h:mx ((x::l).map a)<=m):a x<=m/\mx (l.map a)<=m:=Da.mp h
structure Ze(LV:Nat->Nat)(f f':iU)(m:Nat):Prop where
 e:∀{d:Nat}{e:Ex}{s:St},lB LV d e<=m->Le (f.e e s) (f'.e e s)
 b:∀{d:Nat}{e:Ex}{s:St},lB LV d e+1<=m->Le (f.b e s) (f'.b e s)
 iT:∀{d:Nat}{b:List Sm}{s:St},Uz LV d b<=m->Le (f.iT b s) (f'.iT b s)
 call:∀{fi:Nat}{as:List RV}{g:List GO},LV fi<=m->Le (f.call fi as g) (f'.call fi as g)
section
variable{LV:Nat->Nat} {f f':iU} {m:Nat} (H:Ze LV f f' m)
include H
theorem hH{d:Nat}{e:Ex}{s:St}(h:lB LV d e<=m):Le (gS f e s) (gS f' e s):=by
 delta gS;induction e.var? with
 |some i=>exact .rfl
 |none=>exact(H.e h).map
theorem xv{d:Nat}{a:List Ex}:∀{s:St},mx (a.map<|lB LV d)<=m->Le (ua f a s) (ua f' a s):=by
 induction a with
 |nil=>exact@λ_ _=>.rfl
 |cons _ _ b=>exact@λ_ h=>(H.e (yb h).1).bind λ_=>(b (yb h).2).map
theorem DU{d:Nat}{a:List Ex}:∀{s:St},mx (a.map<|lB LV d)<=m->Le (ue f a s) (ue f' a s):=by
 induction a with
 |nil=>exact@λ_ _=>.rfl
 |cons e a b=>
  intro s h;show Le (match e.var? with|some i=>_|none=>_) (match e.var? with|some i=>_|none=>_)
  induction e.var? with
  |some i=>exact Le.rfl.bind λ_=>(b (yb h).2).map
  |none=>exact(H.e (yb h).1).bind λ_=>(b (yb h).2).map
theorem xx{d:Nat}{st:Bool}:∀{a:List Ex}{s:St},mx (a.map<|lB LV d)<=m->Le (zK f st a s) (zK f' st a s)
 |[],_,_=>.rfl
 |[_],_,h=>H.e (yb h).1
 |_::_::_,_,h=>(H.e (yb h).1).bind λ_=>Le.rfl.bind λ_=>.ite .rfl<|xx (yb h).2
theorem sv{d:Nat}{st:Bool}{a:List Ex}:∀{s:St},mx (a.map λe=>lB LV d e+1)<=m->Le (oA f st a s) (oA f' st a s):=by
 induction a with
 |nil=>exact@λ_ _=>.rfl
 |cons _ _ c=>exact@λ_ h=>(H.b (yb h).1).bind λ_=>.ite .rfl<|c (yb h).2
theorem zH{d:Nat}{o:Option Ex}{s:St}(h:(o.map<|lB LV d).getD 0<=m):Le (rF f o s) (rF f' o s):=by
 induction o with
 |none=>exact .rfl
 |some e=>exact(H.e<|show lB LV d e<=m from h).map
theorem uc{b:Nat}{a:List RV}{o:List Op×St}(h:LV b<=m):Le (ic f b a o) (ic f' b a o):=Le.rfl.bind λ_=>(H.call h).map
theorem vN{d b:Nat}{a:List RV}{c:List Ex}{s:St}(h:LV b<=m)(e:mx (c.map<|lB LV d)<=m):Le (xw f b a c s) (xw f' b a c s):=(DU H e).bind λ_=>uc H h
end
section
variable{σ ε:Type} {t t':PV->σ->Option (Option ε×σ)} (ht:∀x s,Le (t x s)<|t' x s)
include ht
theorem y9{l:List PV}:∀{s:σ},Le (bb t l s)<|bb t' l s:=by
 induction l with
 |nil=>exact@λ_=>.rfl
 |cons x l a=>
  exact@λs=>(ht x s).bind λy=>by
   induction y.1 with
   |some r=>exact .rfl
   |none=>exact a
theorem Io{a:σ->List GO}{n:Nat}{k:Nat}:∀{i:Nat}{s:σ},Le (je a n t k i s)<|je a n t' k i s:=by
 induction k with
 |zero=>exact@λ_ _=>.rfl
 |succ k b=>
  exact@λi s=>Le.rfl.bind λo=>Le.rfl.bind λl=>by
   induction l[i]? with
   |none=>exact .rfl
   |some x=>
    exact(ht x s).bind λy=>by
     induction y.1 with
     |some r=>exact .rfl
     |none=>exact b
theorem tO{b:σ->List GO}{a:Src}{s:σ}:Le (fB b t a s) (fB b t' a s):=by
 induction a with
 |l r=>exact y9 ht
 |g n k i=>exact Io ht
end
section
variable{LV:Nat->Nat} {f f':iU} {m:Nat} (H:Ze LV f f' m)
include H
theorem vM{a o:Type}{b:List Nat}{n:a->St}{j:St->a->a}{d:Nat}{c:Ex}{t k:PV->a->Option (Option o×a)}{s:a}(h:lB LV d c<=m)(g:∀x s,Le (t x s)<|k x s):Le (eY f b n j c t s) (eY f' b n j c k s):=by
 delta eY;induction c.var? with
 |none=>exact(H.e h).bind λ_=>Le.rfl.bind λ_=>tO g
 |some i=>
  exact Le.rfl.bind λx=>by
   induction x with
   |v p=>exact Le.rfl.bind λ_=>tO g
   |ml t l=>exact .ite (y9 g).map .rfl
   |md=>exact .rfl
abbrev fuG(LV:Nat->Nat)(d:Nat)(g:Tg×Ex×List Ex):Nat:=max (lB LV d g.2.1)<|mx<|g.2.2.map λe=>lB LV d e+1
theorem Jz{b:List Nat}{d:Nat}{a:Ex}(g:lB LV d a<=m):∀{c:List (Tg×Ex×List Ex)}{s:List PV×St},mx (c.map<|fuG LV d)<=m->Le (KZ f b a c s) (KZ f' b a c s)
 |[],_,_=>.ite (H.e g).map .rfl
 |(_,_,_)::_,_,h=>vM H (Da.mp (yb h).1).1 λ_ _=>Le.rfl.bind λ_=>(sv H (Da.mp (yb h).1).2).bind λ_=>.ite (Jz g (yb h).2) .rfl
theorem FG{d:Nat}{a:Ex}{b:List (Tg×Ex×List Ex)}{s:St}(c:lB LV d a<=m)(h:mx (b.map<|fuG LV d)<=m):Le (mv f a b s) (mv f' a b s):=by
 induction b with
 |nil=>exact .rfl
 |cons g b=>exact Le.map<|vM H (Da.mp (yb h).1).1 λ_ _=>Le.rfl.bind λ_=>(sv H (Da.mp (yb h).1).2).bind λ_=>.ite (Jz H c (yb h).2) .rfl
theorem HG{d:Nat}{e:Ex}{s:St}(h:lB LV d e<=m):Le (rA f e s) (rA f' e s):=by
 delta rA;induction e.var? with
 |some i=>exact .rfl
 |none=>exact(H.e h).bind λ_=>.rfl
end
section
variable{LV:Nat->Nat} {f f':iU} {m:Nat} (H:Ze LV f f' m) (hc:∀cl∈CT,LV cl.init<=max (LV 83) (LV 85)/\∀p∈cl.ms,LV p.2<=max (LV 84) (LV 86))
include H
omit H in
theorem vx{n:Str}{a:Nat}:∀{l:List (Str×Nat)},l.lookup n=some a->∃p∈l,p.2=a
 |(k,v)::l,h=>by
  rw[Kx]at h;induction q:n==k with
  |true=>rw[q]at h;exact⟨(k,v),.head _,bn h⟩
  |false=>rw[q]at h;refine aO (vx h) λp b e=>?_;exact⟨p,.tail _ b,e⟩
include hc
theorem Hi{d:Nat}{e:Ex}{s:St}(h:fuX LV (lB LV d) e<=m):Le (nG f CT e s) (nG f' CT e s):=by
 cases e with
 |c x=>exact .rfl
 |v i=>exact .rfl
 |and k=>exact xx H h
 |or k=>exact xx H h
 |not e=>exact(hH H h).bind λ_=>.rfl
 |neg e=>exact(H.e h).bind λ_=>.rfl
 |bin op a b=>exact(hH H (Da.mp h).1).bind λ_=>(hH H (Da.mp h).2).bind λ_=>.rfl
 |cmp op a b=>exact(hH H (Da.mp h).1).bind λ_=>(hH H (Da.mp h).2).bind λ_=>.rfl
 |ite c a b=>have g:=Da.mp (Da.mp h).2;exact(H.b (Da.mp h).1).bind λ_=>.ite (H.e<|cN g.1)<|H.e<|cN g.2
 |call r l=>exact vN H (Da.mp h).1 (Da.mp h).2
 |new c l=>exact(DU H (Da.mp h).2).bind λ_=>Le.rfl.bindM λcl e=>(uc H<|am (hc cl<|bZ e).1 (Da.mp h).1).bind λ_=>.rfl
 |nh o n l=>have g:=Da.mp (Da.mp h).2;exact(H.e g.1).bind λ_=>Le.rfl.bind λ_=>.ite (Le.rfl.bindM λcl e=>Le.rfl.bindM λr u=>by refine aO (vx u) λp q j=>?_;subst j;exact vN H (am ((hc cl (bZ e)).2 p q) (Da.mp h).1) g.2) .rfl
 |bi b a=>exact(hH H h).bind λ_=>.rfl
 |bm b o l=>exact(hH H (Da.mp h).1).bind λ_=>Le.rfl.bind λ_=>.ite ((xv H (Da.mp h).2).bind λ_=>.rfl) .rfl
 |dw o n=>exact(H.e h).bind λ_=>.rfl
 |sub o i=>exact(hH H (Da.mp h).1).bind λ_=>(H.e (Da.mp h).2).bind λ_=>.rfl
 |sl o lo y=>have g:=Da.mp (Da.mp h).2;exact(hH H (Da.mp h).1).bind λ_=>(zH H g.1).bind λ_=>(zH H g.2).bind λ_=>.rfl
 |tup k=>exact .ite (xv H h).map .rfl
 |lst k=>exact .ite (xv H h).map .rfl
 |vP ks w=>exact Le.rfl.bind λ_=>(xv H h).bind λ_=>.rfl
 |comp t z=>exact FG H (Da.mp h).1 (Da.mp h).2
 |prom e=>exact HG H h
 |bad=>exact .rfl
omit hc H in
theorem PT{a:List Ex}{d:Nat}(h:mx (a.map<|lB LV d)+1<=m):mx (a.map λe=>lB LV d e+1)<=m:=by
 have k:=mxm<|v6<|mx<|a.map<|lB LV d
 have:∀{l:List Ex},(∀e∈l,lB LV d e+1<=m)->mx (l.map λe=>lB LV d e+1)<=m:=λ{l}=>by
  induction l with
  |nil=>exact λ_=>Rs _
  |cons x l b=>exact λh=>Da.mpr ⟨h x<|.head _,b λe m=>h e<|.tail _ m⟩
 exact this λe c=>am (b6<|k e c) h
omit hc in
theorem Hj{d:Nat}{e:Ex}{s:St}(h:lB LV (d+1) e<=m):Le (s7 f e s) (s7 f' e s):=by
 have j:Le ((gS f e s).bind λp=>(p.1.aD p.2).bind λx=>(cF p.2.g x).map λt=>(t,p.2)) ((gS f' e s).bind λp=>(p.1.aD p.2).bind λx=>(cF p.2.g x).map λt=>(t,p.2)):=(hH H h).bind λ_=>.rfl;cases e with
 |not e=>exact(H.b<|show lB LV d e+1<=m from h).map
 |and k=>exact sv H<|PT h
 |or k=>exact sv H<|PT h
 |ite c a b=>
  have h:=Da.mp<|cN h
  have i:=Da.mp h.2;exact(H.b h.1).bind λ_=>.ite (H.b i.1)<|H.b i.2
 |cmp op a b=>
  have h:=Da.mp<|cN h
  exact(hH H h.1).bind λ_=>(hH H h.2).bind λ_=>.rfl
 |bad=>exact .rfl
 |prom e=>exact .rfl
 |_=>exact j
omit hc
theorem OX{d:Nat}{t:XZ}{x:RV}{s:St}(h:fuT (lB LV d) t<=m):Le (TT f t x s) (TT f' t x s):=by
 induction t with
 |v i=>exact .rfl
 |ns a=>exact .rfl
 |sub o i=>exact(hH H (Da.mp h).1).bind λ_=>(H.e (Da.mp h).2).bind λ_=>.rfl
 |dw o n=>exact(H.e h).bind λ_=>.rfl
theorem BM{d:Nat}{t:Tg}{b:List Sm}{x:PV}{s:St}(h:Uz LV d b<=m):Le (forTurn f t b x s) (forTurn f' t b x s):=Le.rfl.bind λ_=>(H.iT h).map
theorem QR{d:Nat}{c:Ex}{b:List Sm}(g:lB LV d c+1<=m)(e:Uz LV d b<=m){k:Nat}:∀{s:St},Le (GG f c b k s)<|GG f' c b k s:=by
 induction k with
 |zero=>exact@λ_=>.rfl
 |succ k a=>
  exact@λs=>(H.b g).bind λt=>.ite ((H.iT e).bind λy=>by
   induction y.1 with
   |dK=>exact a
   |cnt=>exact a
   |brk=>exact .rfl
   |ret r=>exact .rfl) .rfl
theorem L9{d:Nat}{e:Ex}{s:St}(h:lB LV d e<=m):Le (yR f e s) (yR f' e s):=by
 delta yR;induction e.var? with
 |some i=>exact .rfl
 |none=>exact(H.e h).map
theorem Hh{d:Nat}{x:Sm}{s:St}(h:Tc LV (d+1) x<=m):Le (cH f x s) (cH f' x s):=by
 cases x with
 |asg t e=>exact(H.e (Da.mp h).1).bind λ_=>(OX H (Da.mp h).2).map
 |aug i op e=>exact Le.rfl.bind λ_=>(H.e<|show lB LV d e<=m from h).bind λ_=>.rfl
 |bB t j b=>exact(H.e (Da.mp h).1).bind λ_=>Le.rfl.bind λ_=>(tO λ_ _=>BM H (d:=d) (Da.mp h).2).map
 |g7 c b=>exact QR H (Da.mp h).1 (d:=d) (Da.mp h).2
 |aN c a b=>have g:=Da.mp (Da.mp h).2;exact(H.b (Da.mp h).1).bind λ_=>.ite (H.iT (d:=d) g.1)<|H.iT (d:=d) g.2
 |ret e=>exact L9 H (d:=d) h
 |ex e=>exact(H.e<|show lB LV d e<=m from h).bind λ_=>.rfl
 |bad=>exact .rfl
theorem AX{d:Nat}{b:List Sm}:∀{s:St},mx (b.map<|Tc LV<|d+1)<=m->Le (ia f b s) (ia f' b s):=by
 induction b with
 |nil=>exact@λ_ _=>.rfl
 |cons x c a=>
  exact@λs h=>(Hh H (yb h).1).bind λy=>by
   induction y.1 with
   |dK=>exact a (yb h).2
   |_=>exact .rfl
theorem yD{d b:Nat}{c:List RV}{g:List GO}(h:∀a,FT[b]?=some a->Uz LV d a.body<=m):Le (lT f FT b c g) (lT f' FT b c g):=Le.rfl.bindM λa e=>.ite ((H.iT<|h a e).bind λ_=>.rfl) .rfl
end
noncomputable def LVt:List Nat:=[6,9,9,9,8,28,28,33,9,9,6,6,8,7,13,6,18,21,7,11,9,5,7,12,16,6,19,25,28,33,14,38,11,20,24,67,71,17,24,6,16,19,23,8,27,32,37,16,14,18,16,41,45,49,22,53,13,18,56,60,64,67,7,11,18,5,9,12,24,16,13,20,25,11,6,11,16,20,9,73,77,32,84,10,6,3,3,8,62,58,53,49,44,2,2,18,2,10,2,2]
def LV(i:Nat):Nat:=LVt[i]?.getD 100000
theorem Wa:(CT.all λa=>bx (LV a.init) (max (LV 83)<|LV 85)&&a.ms.all λp=>bx (LV p.2)<|max (LV 84)<|LV 86)=true:=by decide+kernel
theorem V':((Db 100).all λi=>(FT[i]?).all λa=>bx (Uz LV 30 a.body+1)<|LV i)=true:=by decide+kernel
theorem PZ(h:FT[a]?=some b):Uz LV 30 b.body+1<=LV a:=by
 have l:=(ty.mp h).1;have:=bv.mp V' a<|bS.mpr l
 rw[h]at this;exact io this
theorem CV:∀{m},m<100000->∀n,Ze LV (ev FT CT n) (ev FT CT m) m
 |m,j,0=>⟨λ_=>.no,λ_=>.no,λ_=>.no,λ_=>.no⟩
 |0,_,n+1=>⟨λ{d e s} h=>by induction d<;>exact absurd h<|dP _,λh=>absurd h<|dP _,λh=>absurd h<|dP _,λ{o u g} h r e=>bE e λq t _=>absurd (am (PZ t) h)<|dP _⟩
 |m+1,j,n+1=>by
  have c:=CV (cM j) n;have l:∀f∈CT,LV f.init<=max (LV 83) (LV 85)/\∀p∈f.ms,LV p.2<=max (LV 84) (LV 86):=λf h=>aE (bv.mp Wa f h) λa b=>⟨io a,λp k=>io<|bv.mp b p k⟩
  have i:∀{x:Nat},100000+x<=m+1->False:=λh=>absurd (am (pp _ _) h)<|ql.mpr j
  refine⟨λ{d e s} h=>?_,λ{d e s} h=>?_,λ{d b s} h=>?_,λ{o u g} h=>?_⟩
  .induction d with
   |zero=>exact(i (x:=0) h).elim
   |succ d=>exact Hi c l<|bH h
  .induction d with
   |zero=>exact(i (x:=1) h).elim
   |succ d=>exact Hj c<|bH h
  .induction d with
   |zero=>
    induction b with
    |nil=>exact .rfl
    |cons x b=>exact(i (x:=0)<|am (Nat.le_max_left _ _)<|cN h).elim
   |succ d=>exact AX c<|bH h
  .exact yD c λq e=>bH<|am (PZ e) h
def kq(p:Nat):Nat:=((dW.find? λa=>co a.1 p).map λa=>2^a.2).getD 0
theorem t6:∀a∈dW,af (kq a.1)=[a.1]:=by decide
theorem Kg:(∀p∈l,∃c,(p,c)∈dW)->bc (λt m=>KM R m t) l (l.map kq):=by
 induction l with
 |nil=>exact@λ_=>.nil
 |cons p l a=>
  exact@λh=>.cons (by
   obtain⟨c,d⟩:=h p<|.head _
   show bz R (af<|kq p) p
   rw[t6 (p,c) d];rfl) (a λp b=>h p (.tail _ b))
theorem Js{l:List Nat}:(∀p∈l,∃c,(p,c)∈dW)->((l.map kq).map af).flatten=l:=by
 induction l with
 |nil=>exact@λ_=>rfl
 |cons p l a=>
  intro h;obtain⟨c,d⟩:=h p<|.head _
  rw[xL,xL,cf,t6 (p,c) d,a λp b=>h p<|.tail _ b];rfl
inductive dU(R:List PV)(n:Nat):List PV->Prop
 |mk (X:List PV) (h:X9 n X):dU R n (R++X)
theorem dU.refl:dU R n R:=by have:=dU.mk (R:=R) (n:=n) [] FF;rwa [u8]at this
theorem dU.trans (h:dU R a S) (q:dU S b T):dU R (a+b) T:=by obtain⟨X,h⟩:=h;obtain⟨Y,q⟩:=q;rw[sK];exact .mk _ ⟨by rw[ch];exact TE h.1 q.1,λx m=>(TD.mp m).elim (h.2 x)<|q.2 x⟩
theorem dU.up (h:dU R a S) (q:a<=b):dU R b S:=by obtain⟨X,h⟩:=h;exact .mk _ ⟨am h.1 q,h.2⟩
theorem dU.tb (h:dU R a S) (q:Tb R):Tb S:=by obtain⟨X,h⟩:=h;obtain⟨Y,rfl⟩:=q;exact⟨Y++X,sK ..⟩
theorem dU.km (h:dU R a S) (k:KM R m t):KM S m t:=by obtain⟨X,h⟩:=h;exact bz.app k
theorem dU.len (h:dU R a S):S.length<=R.length+a:=by obtain⟨X,h⟩:=h;exact ch▸db h.1 _
inductive mG(a:Nat)(d:List RV)(b:List (Option RV))(R:List PV)(L:List GO)(c m:Nat):Prop
 |mk (t:Nat) (S:List PV) (e:ai a d (G R L) (ae t) b (G S L)) (g:dU R c S) (k:KM S m t):mG a d b R L c m
abbrev oL(R:List PV)(a ks:List Nat):Prop:=bc (λq k=>KM R k q) a ks
theorem dU.Nq {ks} (h:dU R a S) (k:oL R q ks):oL S q ks:=by
 induction k with
 |nil=>exact .nil
 |cons k _ u=>exact .cons (h.km k) u
theorem oL.snoc (h:oL R q z) (D:KM R m u):oL R (q++[u]) (z++[m]):=by
 induction h with
 |nil=>exact .cons D .nil
 |cons h _ C=>exact .cons h C
theorem oL.len (h:oL R us q):us.length=q.length:=by
 induction h with
 |nil=>rfl
 |cons _ _ u=>exact congrArg dO u
def Af(l:List Nat):Prop:=∀p∈l,∃c,(p,c)∈dW
theorem jI(d:Tb R)(i:bq (G R L) 1 x (iv g))(k:oL R g a)(f:(a.map af).flatten.length<64)(j:R.length<az):mG 16 [ak 0,x] [none,none] R L 1 (au<|orM a):=eV (AM d a) λX e n l=>⟨_,R++X,e▸zl i (Kf d k) (λp m=>(y7 m).elim λb c=>have h:=(d.atom _ c).1;h.is.symm▸h) (λp m=>(y7 m).elim λb c=>(xQ c).2.2) f j,.mk X n,l⟩
theorem l9(d:Tb R)(b:bq (G R L) 1 x (iv l))(h:Af l)(a:l.length<64)(c:R.length<az):mG 16 [ak 0,x] [none,none] R L 1 (au<|orM<|l.map kq):=jI d b (Kg h) (by rw[Js h];exact a) c
section
variable{γ:Type} {t:Tg} {b:List Sm}
theorem Im{after:List PV->Option Nat->St}{p F}{ts:List Nat}:∀{out o},out.length+ts.length<az->(∀q∈ts,∀(out)(o),out.length<az->oF t b (.int (q:Int)) (after out o) (after (bif p q then out++[F q]else out)<|some q))->∃c,Ok (λf=>bb (forTurn f t b) (iv ts)<|after out o) (none,after (out++(ts.filter p).map F) c):=by
 induction ts with
 |nil=>exact@λout o _ _=>⟨o,by rw[List.filter_nil,jq,u8];exact cT⟩
 |cons q ts i=>
  intro out o j h;have a:=jU j;have g:=h q (.head _) out o a.1;induction e:p q with
  |true=>
   rw[e]at g;obtain⟨c,d⟩:=i (out:=out++[F q]) (o:=some q) (ch▸a.2.2) λq m=>h q<|.tail _ m
   rw[sK]at d;exact⟨c,aQ g (by rw[aX,if_pos e];exact d)⟩
  |false=>
   rw[e]at g;obtain⟨c,d⟩:=i (out:=out) (o:=some q) a.2.1 λq m=>h q<|.tail _ m
   exact⟨c,aQ g (by rw[aX,if_neg<|e▸xz];exact d)⟩
inductive GrE(S:List PV->γ->Option Nat->St)(J:List Nat->List PV->γ->Prop)(F:iU->Option (Option Fl×St)):Prop
 |mk (R:List PV) (c:γ) (o:Option Nat) (e:Ok F (none,S R c o)) (h:J [] R c):GrE S J F
inductive T6(S:List PV->γ->Option Nat->St)(J:List PV->γ->Prop)(t:Tg)(b:List Sm)(q:Nat)(s:St):Prop
 |mk (R:List PV) (c:γ) (e:oF t b (.int (q:Int)) s (S R c<|some q)) (h:J R c):T6 S J t b q s
variable{S:List PV->γ->Option Nat->St} {J:List Nat->List PV->γ->Prop}
theorem Il(st:∀q r R c o,J (q::r) R c->T6 S (J r) t b q (S R c o)):∀{R c o},J qs R c->GrE S J λf=>bb (forTurn f t b) (iv qs)<|S R c o:=by
 induction qs with
 |nil=>exact@λR c o h=>⟨R,c,o,cT,h⟩
 |cons q qs d=>intro R c o h;obtain⟨m,l,e,h⟩:=st q qs R c o h;obtain⟨k,j,a,i,g⟩:=d (o:=some q) h;exact⟨k,j,a,aQ e i,g⟩
variable{n:Nat} {l:List PV}
theorem P5(m:∀R c o,(S R c o).g[n]?=some (.list l))(st:∀q r R c o,J (q::r) R c->T6 S (J r) t b q (S R c o)){qs}:∀{i k R c o},l.drop i=iv qs->qs.length<k->J qs R c->GrE S J λf=>je (λs:St=>s.g) n (forTurn f t b) k i<|S R c o:=by
 induction qs with
 |nil=>
  intro i;intro j;induction j with
  |zero=>exact@λ_ _ _ _ a _=>absurd a<|dF _
  |succ k=>
   intro R c o e _ h;refine⟨R,c,o,Ok.pure.congr λf=>?_,h⟩;refine(M4 (gl:=λs:St=>s.g) (m ..)).trans ?_;show(match l[i]? with|none=>_|some x=>_)=_
   exact(dy.mpr<|fy.mp e)▸rfl
 |cons q qs u=>
  intro i;intro d;induction d with
  |zero=>exact@λ_ _ _ _ a _=>absurd a<|dF _
  |succ k=>
   intro R c o e a h;obtain⟨H,F,z,h⟩:=st q qs R c o h;have v:l[i]?=some (.int (q:Int)):=by have:=congrArg jB e;rw[lM]at this;exact this
   obtain⟨E,A,p,y,w⟩:=u (i:=i+1) (k:=k) (o:=some q) (by have:=congrArg yh e;rw[nu]at this;exact this) (bg a) h
   refine⟨E,A,p,z.two y λf D C=>?_,w⟩;refine(M4 (gl:=λs:St=>s.g) (m ..)).trans ?_;show(match l[i]? with|none=>_|some x=>_)=_
   refine v▸?_;exact bI D C
end
theorem KM.base (C:Tb R) (h:KM R m t) (u:t<23) (z:t≠12):(t=2/\af m=[])\/af m=[t]:=by
 delta KM at h;revert h;generalize af m=l;intro h
 match l,h with
 |[],h=>exact .inl ⟨h,rfl⟩
 |[a],h=>exact .inr<|congrArg (λx=>[x])<|show a=t from Eq.symm h
 |a::b::l,h=>
  have e:=aK<|show aM (.tup [.int 6,.tup<|iv<|a::b::l]) R=some t from h
  rw[C.at (At<|show t<B.length from u)]at e
  have e:=bn e;exact absurd ((by decide+kernel:∀i,i<23->i≠12->(B[i]?.bind λx=>x.lD.bind λl=>l.head?.bind λy=>y.int?)≠some 6) t u z) λq=>q (by rw[At<|show t<B.length from u,e];rfl)
theorem KM.is (C:Tb R) (h:KM R m t) (b) (z:b<23) (D:b≠2) (u:b≠12):decide (t=b)=decide (af m=[b]):=by
 by_cases e:t=b
 .subst e;rcases h.base C z u with h|h
  .exact absurd h.1 D
  .rw[h,decide_eq_true rfl,decide_eq_true rfl]
 .rw[decide_eq_false e,decide_eq_false];intro q;delta KM at h;rw[q]at h;exact e h
theorem KM.RN (u:Tb R) (h:KM R m t):t≠13:=λe=>by
 have:=h.is u 13 (ut ..) (by decide) (by decide)
 rw[decide_eq_true e]at this;have i:=of_decide_eq_true this.symm;obtain⟨b,q⟩:=cP (show 13∈af m by exact i▸.head _)
 exact(xQ q).2.1 rfl
section
variable{p q t:Nat}
theorem rO(i a b):aS g .In (ae i) (dQ [.int a,.int b])=some (decide<|i=a\/i=b):=by
 show some (TW (.int a) (.int i)||(TW (.int b) (.int i)||false))=_
 rw[fj,fj,cB,<-bU]
theorem Fm(i a b c):aS g .In (ae i) (dQ [.int a,.int b,.int c])=some (decide<|i=a\/i=b\/i=c):=by
 show some (TW (.int a) (.int i)||(TW (.int b) (.int i)||(TW (.int c) (.int i)||false)))=_
 rw[fj,fj,fj,cB,<-bU,<-bU]
noncomputable def loose(t q:Nat):Bool:=decide ((t:Int)=0\/(t:Int)=13)||(decide ((q:Int)=0\/(q:Int)=13\/(q:Int)=1)||false)
theorem Xc(i):aS g .In (ae i) (dQ [.int 4,.int 5])=some (decide<|i=4\/i=5):=by
 show some (TW (.int 4) (.int i)||(TW (.int 5) (.int i)||false))=_
 rw[fj,fj,cB,<-bU]
def Hx(q p:Nat):Bool:=decide ((gu q:Int)=4\/gu q=5)&&decide (gu p=gu q)
def jg(q p:Nat):Bool:=(!decide (p=q\/(jQ p=false/\jQ q=false)))&&((!Hx q p)&&((!(decide ((p:Int)=3)&&(decide ((q:Int)=4)&&true)))&&true))
end
theorem OR(g:Ok (λf=>f.b i s) (a,s))(e:Ok (λf=>oA f false h s) (b,s)):Ok (λf=>oA f false (i::h) s) (a&&b,s):=by
 refine g.two e λf c d=>?_;induction a with
 |true=>exact bI c<|(if_neg iB).trans d
 |false=>exact bI c<|if_pos rfl
theorem Za(g:Ok (λf=>f.b i s) (a,s))(e:Ok (λf=>oA f true h s) (b,s)):Ok (λf=>oA f true (i::h) s) (a||b,s):=by
 refine g.two e λf c d=>?_;induction a with
 |true=>exact bI c<|if_pos rfl
 |false=>exact bI c<|(if_neg iB).trans d
theorem UA:Ok (λf=>oA f st [] s) (!st,s):=.pure
theorem xe(h:Ok (λf=>oA f false a s) (b,s)):Ok (λf=>f.b (.and a) s) (b,s):=h.up λn=>Jy ..
theorem Qf(h:Ok (λf=>oA f true a s) (b,s)):Ok (λf=>f.b (.or a) s) (b,s):=h.up λn=>Jy ..
theorem IX(h:Ok (λf=>f.b a s) (b,s)):Ok (λf=>f.b (.not a) s) (!b,s):=Ok.up (F:=λf=>(f.b a s).map λx=>(!x.1,x.2)) (h.map λ_=>rfl) λn=>Jy ..
def kindB(i:Nat):Option Int:=B[i]?.bind λx=>x.lD.bind λl=>l.head?.bind λy=>y.int?
theorem kind_all:(dW.all λa=>(kindB a.1).any λk=>decide<|k<5)=true:=by decide+kernel
inductive p8(R:List PV)(i:Nat)(k:Int):Prop
 |mk (a:List PV) (h:R[i]?=some (.tup<|.int k::a)):p8 R i k
section
variable{q k:Nat}
theorem Tb.kd (z:Tb R) {k} (h:kindB i=some k):p8 R i k:=bE h λx E h=>bE h λl D h=>bE h λy u C=>by
  obtain rfl:=PV.cU C;induction l with
  |nil=>exact nE u
  |cons y l=>obtain rfl:=bn u;exact⟨l,z.at (PV.lR D▸E)⟩
theorem Dy(c:Tb R)(a:(q,b)∈dW):∃k:Int,p8 R q k/\k<5:=by have:=bv.mp kind_all (q,b) a;exact oE this λk e d=>⟨k,c.kd e,of_decide_eq_true d⟩
theorem IV{k}(h:p8 R t k):ai 0 [ak 0,ae t] (G R L) (ae k) [none,none] (G R L):=by obtain⟨a,h⟩:=h;exact WZ h
theorem Zr(n)(X)(L):(ev FT CT<|n+40).call 48 [ak 0,ae 2] (G (B++X) L)=some (dQ [],[none,none],G (B++X) L):=by kernel_rfl
def QZ(k:Nat):PV:=match af k with
 |[a]=>lQ a
 |_=>.tup []
theorem U9(h:R[q]?=some (.tup<|.int 6::x::c))(b:q≠4)(a:q≠5):ai 48 [ak 0,ae q] (G R L) (dQ []) [none,none] (G R L):=kf 10 [op<|bj (L:=L) h,ob<|ao (g:=G R L)<|jc b,ob<|ao (g:=G R L)<|jc a,od,ob<|ao (g:=G R L) (i:=6) (j:=5) rfl,od,ob<|(Fm (g:=G R L) 6 2 3 4).trans rfl]
theorem WC(c:Tb R)(h:KM R k q):ai 48 [ak 0,ae q] (G R L) (.v<|QZ k) [none,none] (G R L):=by
 have g:=h.is c 4 (by decide) (by decide) (by decide)
 have f:=h.is c 5 (by decide) (by decide) (by decide)
 have d:= @cP k;delta QZ;delta KM at h;revert h g f d;generalize af k=l;intro h g f d
 match l,h with
 |[],h=>subst h;obtain⟨X,rfl⟩:=c;exact Aq λn=>dg (n+40)▸Zr n X L
 |[a],h=>subst h;exact(d<|.head _).elim λb i=>xc c i
 |a::b::l,h=>exact U9 (aK h) (of_decide_eq_false (g.trans (decide_eq_false λe=>nomatch e))) (of_decide_eq_false (f.trans (decide_eq_false λe=>nomatch e)))
end
noncomputable def lb(a:cx)(i:Nat):List Sm:=match a.body[i]? with
 |some (.bB _ _ b)=>b
 |_=>[]
section
variable{p q t:Nat} {out:List PV}
theorem eU(h:s.get i=some (.ml none out))(b:out.length<az)(a:(Op.pl i).store s (.ml none<|out++[x])=some s'):uJ s .append (.pl i) [x]=some (.v .none,s'):=bI h (show(if out.length<az then((Op.pl i).store s<|.ml none<|out++[x]).map (λs'=>(RV.v .none,s'))else none)=_ from(if_pos b).trans<|mI a rfl)
def wW(t q:Nat)(g:List GO)(out:List PV)(o:Option Nat):St:=⟨[some<|ak 0,some<|ae t,some<|ae q,some<|.v<|lQ q,some<|.ml none out,o.map λ(p:Nat)=>ae p,o.map λ(p:Nat)=>dj<|Hx q p],g⟩
theorem HL(l:Tb R)(d:(q,b)∈dW)(k:jQ q=true)(h:(p,c)∈dW)(o)(n:out.length<az):oF (.v 5) (lb f54 4) (.int (p:Int)) (wW t q (G R L) out o) (wW t q (G R L) (bif jg q p then out++[.int (p:Int)]else out)<|some p):=by
 have m:Ok (λf=>f.e (.and [.cmp .In (.sub (.v 3) aH)<|.tup [jA,sy],.cmp .Eq (.call 20 [.v 0,.v 5])<|.sub (.v 3) aH])<|(wW t q (G R L) out o).put 5<|some<|ae p) (dj<|Hx q p,(wW t q (G R L) out o).put 5<|some<|ae p):=ow (ke 5 [op<|Pm (g:=G R L) d k,ob<|Xc (g:=G R L)<|gu q]) (ke 5 [oc<|pG (L:=L) l h,op<|Pm (g:=G R L) d k,ob<|ao (g:=G R L) (i:=(gu p)) (j:=(gu q)) rfl])
 have a:Ok (λf=>f.b (.and [.cmp .NotEq (.call 48 [.v 0,.v 5])<|.v 3,.not<|.v 6,.not<|.and [.cmp .Eq (.v 5) gV,.cmp .Eq (.v 2) jA]])<|wW t q (G R L) out<|some p) (jg q p,wW t q (G R L) out<|some p):=xe (OR (kb 5 [oc (xc (L:=L) l h),ob (QY (g:=G R L) h d)]) (OR (IX (kb 5 [od])) (OR (IX (xe (OR (kb 5 [ob (ao (g:=G R L) (i:=p) (j:=3) rfl)]) (OR (kb 5 [ob (ao (g:=G R L) (i:=q) (j:=4) rfl)]) UA)))) UA)))
 induction e:jg q p with
 |true=>rw[e]at a;exact kt 10 [ox m,ot a,om<|eU (s:=wW t q (G R L) out<|some p) (i:=4) (x:=.int (p:Int)) (out:=out) rfl n (s':=wW t q (G R L) (out++[.int (p:Int)])<|some p) rfl]
 |false=>rw[e]at a;exact kt 10 [ox m,ot a]
end
noncomputable def sV:List Nat->List Nat
 |[]=>[0]
 |b::l=>sV l++(sV l).map (· +b)
def MU:List Nat:=sV [1,2,8,256,512,1024]++sV [4,512,1024]++sV [4,32,64,128,512]++sV [1,2,8,16,64,128]++[2048]
noncomputable def U8:List Nat:=[1,2,8,16,64,128,256,512]
noncomputable def TK:List Nat:=[1,8,512,256,128,3,4,192,2,64,16,1024,2048,0,520,4096,516,768,32]
def de(m k:Nat):Nat:=if m=2048 then m else if U8.contains k=true then m&&&(8191^^^ (if k=512 then 1536 else k))else m
theorem RY:(MU.all λm=>co (au<|orM<|(af m).map kq) m&&(!decide (af m=[0])||m==2048)&& !decide (af m=[1]))=true:=by decide+kernel
def oo(m k:Nat):Bool:=decide (af m=[0])||(decide (af k=[0])||decide (af k=[1]))
def VW(m k:Nat):Nat:=bif oo m k then m else match af k with
 |[q]=>bif jQ q then au (orM<|((af m).filter<|jg q).map kq)else m
 |_=>m
theorem Mt:(MU.all λm=>TK.all λk=>co (VW m k)<|de m k)=true:=by decide+kernel
theorem RX:(MU.all λm=>U8.all λk=>MU.contains<|de m k)=true:=by decide+kernel
theorem VX:((dW.filter λa=>!jQ a.1).map λa=>lQ a.1)=(dW.filter λa=>!jQ a.1).map λ_=>.tup []:=by kernel_rfl
section
variable{q t:Nat}
theorem Dj(a:m∈MU):au (orM<|(af m).map kq)=m/\(af m=[0]->m=2048)/\af m≠[1]:=aE (bv.mp RY m a) λh b=>aE h λd c=>⟨ii d,λe=>(FM.mp c).elim (λh=>absurd e<|of_decide_eq_false<|ry _▸h) λh=>eq_of_beq h,of_decide_eq_false<|ry _▸b⟩
theorem rD(m):(af m).length<=13:=by delta af;rw[im];exact aT _ _
theorem xk(m)(p):((af m).filter p).length<64:=ac (am (aT _ _)<|rD m) (ut ..)
theorem KM.ZR (u:Tb R) (h:KM R m t) (z:af m≠[1]):t≠1:=λe=>by
 have:=h.is u 1 (ut ..) (by decide) (by decide)
 rw[decide_eq_true e]at this;exact z<|of_decide_eq_true this.symm
theorem cX(a b:Nat):decide ((a:Int)=(b:Int))=decide (a=b):=decide_eq_decide.mpr yj
theorem y8(a:Tb R)(h:KM R m t)(b:KM R k q):loose t q=oo m k:=by
 have g:decide ((t:Int)=0)=_:=(cX t 0).trans<|h.is a 0 (by decide) (by decide) (by decide)
 have f:decide ((t:Int)=13)=_:=(cX t 13).trans<|decide_eq_false<|h.RN a
 have e:decide ((q:Int)=0)=_:=(cX q 0).trans<|b.is a 0 (by decide) (by decide) (by decide)
 have d:decide ((q:Int)=13)=_:=(cX q 13).trans<|decide_eq_false<|b.RN a
 have c:decide ((q:Int)=1)=_:=(cX q 1).trans<|b.is a 1 (by decide) (by decide) (by decide)
 delta loose oo;rw[bU,bU,bU,g,f,e,d,c,cB,cB,Os]
theorem WO(d:Tb R)(f:(q,b)∈dW)(j:jQ q=true)(h:KM R m t)(w:t≠1)(s:R.length<az):mG 54 [ak 0,ae t,ae q] [none,none,none] R L 1 (au<|orM<|((af m).filter<|jg q).map kq):=by
 obtain⟨n,S,e,g,x⟩:=l9 d (L:=L) (bq.ml<|iv<|(af m).filter<|jg q) (λp i=>cP (Re.mp i).1) (xk m _) s
 obtain⟨o,a⟩:=Im (t:=.v 5) (b:=lb f54 4) (after:=wW t q<|G R L) (p:=jg q) (F:=λp=>.int (p:Int)) (ts:=af m) (out:=[]) (o:=none) (by rw[tz,ss];exact kX m) λp i out o r=>(cP i).elim λc u=>HL d f j u o r
 exact⟨n,S,kf 20 [oc<|xc (L:=L) d f,ob<|(Va (g:=G R L) f).trans<|congrArg (λb=>some<|!b) j,ob<|ao (g:=G R L)<|jc (k:=1) w,oc<|fQ (L:=L) d h,ol<|cz (src:=.l _) a,oc e],g,x⟩
theorem Bu(a:ai 48 [ak 0,ae q] (G R L) (dQ []) [none,none] (G R L)):ai 54 [ak 0,ae t,ae q] (G R L) (ae t) [none,none,none] (G R L):=kf 20 [oc a,od]
theorem IT(h:loose t q=true):ai 55 [ak 0,ae t,ae q,dj y,dj true] (G R L) (ae t) [none,none,none,none,none] (G R L):=by
 induction e:decide ((t:Int)=0\/(t:Int)=13)with
 |true=>exact kf 20 [ob<|(rO (g:=G R L) t 0 13).trans<|congrArg some e]
 |false=>delta loose at h;rw[e,Os,cB]at h;exact kf 20 [ob<|(rO (g:=G R L) t 0 13).trans<|congrArg some e,ob<|(Fm (g:=G R L) q 0 13 1).trans<|congrArg some h]
theorem tV{r:Nat}(h:loose t q=false)(a:bif y then ai 53 [ak 0,ae t,ae q,dj true] (G R L) (ae r) [none,none,none,none] (G S L)else ai 54 [ak 0,ae t,ae q] (G R L) (ae r) [none,none,none] (G S L)):ai 55 [ak 0,ae t,ae q,dj y,dj true] (G R L) (ae r) [none,none,none,none,none] (G S L):=by
 have h:=b5.mp h;have b:=(b5.mp h.2).1;induction y with
 |true=>exact kf 20 [ob<|(rO (g:=G R L) t 0 13).trans<|congrArg some h.1,ob<|(Fm (g:=G R L) q 0 13 1).trans<|congrArg some b,od,oc a]
 |false=>exact kf 20 [ob<|(rO (g:=G R L) t 0 13).trans<|congrArg some h.1,ob<|(Fm (g:=G R L) q 0 13 1).trans<|congrArg some b,od,od,oc a]
end
section
variable{p q t:Nat} {out:List PV}
theorem i8(a:m∈MU):de m k∈MU:=by
 induction u:U8.contains k with
 |false=>delta de;rw[u,if_neg xz,ite_self];exact a
 |true=>exact wf.mp<|bv.mp (bv.mp RX m a) k<|wf.mp u
theorem Qd(d:Tb R)(h:KM R m t)(j:m∈MU)(c:KM R k q)(f:k∈TK)(s:R.length<az):mG 55 [ak 0,ae t,ae q,dj false,dj true] [none,none,none,none,none] R L 1 (de m k):=by
 have lo:=y8 d h c;have nv:=WC (L:=L) d c;have i:= @cP k;refine(ii<|bv.mp (bv.mp Mt m j) k f)▸?_
 delta VW;refine lo▸?_;induction e:loose t q with
 |true=>exact⟨t,R,IT e,.refl,h⟩
 |false=>
  delta KM at c;unfold QZ at nv;revert c nv i;generalize af k=l;intro c nv i
  match l,c,nv with
  |[],c,nv=>exact⟨t,R,tV (y:=false) e<|Bu nv,.refl,h⟩
  |_::_::_,c,nv=>exact⟨t,R,tV (y:=false) e<|Bu nv,.refl,h⟩
  |[a],c,nv=>
   refine fN (i<|.head _) λb n=>?_
   have o:=c;subst o;show mG _ _ _ _ _ _ (bif jQ q then _ else m);induction v:jQ q with
   |true=>obtain⟨r,S,w,g,u⟩:=WO (L:=L) d n v h (h.ZR d (Dj j).2.2) s;exact⟨r,S,tV (y:=false) e w,g,u⟩
   |false=>
    have nv:ai 48 _ _ (.v<|lQ q) _ _:=nv
    rw[ww.mp VX (q,b)<|Re.mpr ⟨n,congrArg _ v⟩]at nv
    exact⟨t,R,tV (y:=false) e<|Bu nv,.refl,h⟩
noncomputable def Vh(t q a:Nat)(g:List GO)(out:List PV)(o:Option Nat):St:=⟨[some<|ak 10,some<|ae t,some<|ae q,some<|ak 0,some<|ae a,some<|.ml none out,o.map λ(p:Nat)=>ae p],g⟩
theorem WB{k:Int}(h:k<5):decide (k=10\/k=15\/k=16)=false:=decide_eq_false λe=>e.elim (λe=>absurd (e▸h) (by decide)) λe=>e.elim (λe=>absurd (e▸h) (by decide)) λe=>absurd (e▸h) (by decide)
theorem SX:(l.filter λ_=>true).map (λ(p:Nat)=>PV.int (p:Int))=iv l:=congrArg _<|cn.mpr λ_ _=>rfl
theorem Lw(e:p8 S p b)(d:b<5)(c:out.length<az):oF (.v 6) (lb f58 3) (.int (p:Int)) (Vh t q a (G S L) out o) (Vh t q a (G S L) (out++[.int (p:Int)])<|some p):=kt 20 [oc<|IV (L:=L) e,ob<|(Fm (g:=G S L) b 10 15 16).trans<|congrArg some<|WB d,om<|eU (s:=Vh t q a (G S L) out<|some p) (i:=5) (x:=.int (p:Int)) (out:=out) rfl c (s':=Vh t q a (G S L) (out++[.int (p:Int)])<|some p) rfl]
theorem Z4(r:Tb R)(h:KM R m t)(j:m∈MU)(c:KM R k q)(f:k∈TK)(n:R.length+1<az):mG 58 [ak 10,ae t,ae q] [none,none,none] R L 2 (de m k):=by
 obtain⟨w,S,e,g,z⟩:=Qd r h j c f (L:=L)<|cM n
 have i:=g.tb r;obtain⟨o,a⟩:=Im (t:=.v 6) (b:=lb f58 3) (after:=Vh t q w<|G S L) (p:=λ_=>true) (F:=λp=>.int (p:Int)) (ts:=af<|de m k) (out:=[]) (o:=none) (by rw[tz,ss];exact kX _) λp d out o x=>(cP d).elim λb y=>(Dy i y).elim λE c=>Lw c.1 c.2 x
 rw[GM,SX]at a;obtain⟨u,D,C,A,s⟩:=l9 i (L:=L) (bq.ml<|iv<|af<|de m k) (λp d=>cP d) (ac (rD _) (by decide))<|ac g.len n
 rw[(Dj<|i8 (k:=k) j).1]at s
 exact⟨u,D,kf 20 [oc e,oc<|fQ (L:=L) i z,ol<|cz (src:=.l _) a,oc C],g.trans A,s⟩
end
def ZK(m k:Nat):Bool:=(af m).all pj&&(af k).all pj
theorem Ry:(MU.all λm=>TK.all λk=>ZK m k== !oo m k)=true:=by decide+kernel
theorem Fv(n)(g)(x h):(ev FT CT<|n+4).call 86 [.v h,.v x] g=some (.v x,[none,none],g):=by kernel_rfl
theorem cQ(g)(x h):ai 86 [.v h,.v x] g (.v x) [none,none] g:=Aq λn=>dg (n+4)▸Fv n g x h
section
variable{q t:Nat} {y:Bool}
noncomputable def ne0(t q:Nat)(y:Bool)(g:List GO):St:=⟨[some<|ak 10,some<|ae t,some<|ae q,some<|dj y,some<|dj true,some<|ak 0,none,none],g⟩
theorem H7(a:Tb R)(h:KM R m t)(b:KM R k q):Ok (λf=>f.e (.and [(.call 57 [(.v 5),(.v 1)]),(.call 57 [(.v 5),(.v 2)])])<|ne0 t q y<|G R L) (dj<|ZK m k,ne0 t q y<|G R L):=ow (ke 5 [oc<|IY (L:=L) a h]) (ke 5 [oc<|IY (L:=L) a b])
theorem ne_in(b:Tb R)(a:KM R k q):aS (G R L) .In (ae q) (dQ [.int 4,.int 5])=some (decide (af k=[4])||decide (af k=[5])):=(rO ..).trans (by rw[bU,show decide ((q:Int)=4)=_ from(cX q 4).trans (a.is b 4 (by decide) (by decide) (by decide)),show decide ((q:Int)=5)=_ from(cX q 5).trans (a.is b 5 (by decide) (by decide) (by decide))])
noncomputable def n5:List (Option RV):=[none,none,none,none,none]
theorem ne_T(b:Tb R)(h:KM R m t)(a:KM R k q)(e:(decide (af k=[4])||decide (af k=[5]))=true)(c:ai 58 [ak 10,ae t,ae q] (G R L) r [none,none,none] (G S L)):ai 59 [ak 10,ae t,ae q,dj false,dj true] (G R L) r n5 (G S L):=kf 20 [oc<|cQ (G R L) (.int t)<|.aZ 10,oc<|cQ (G R L) (.int q)<|.aZ 10,ox<|H7 (y:=false) (L:=L) b h a,od,od,ob<|(ne_in (L:=L) b a).trans<|congrArg some e,oc c]
theorem ZQ(c:Tb R)(h:KM R m t)(b:KM R k q)(e:(decide (af k=[4])||decide (af k=[5]))=false)(d:ai 55 [ak 0,ae t,ae q,dj false,dj true] (G R L) r n5 (G S L)):ai 59 [ak 10,ae t,ae q,dj false,dj true] (G R L) r n5 (G S L):=by
 have a:=H7 (y:=false) (L:=L) c h b;revert a;generalize ZK m k=p;intro a;induction p with
 |true=>exact kf 20 [oc<|cQ (G R L) (.int t)<|.aZ 10,oc<|cQ (G R L) (.int q)<|.aZ 10,ox a,od,od,ob<|(ne_in (L:=L) c b).trans<|congrArg some e,od,oc d]
 |false=>exact kf 20 [oc<|cQ (G R L) (.int t)<|.aZ 10,oc<|cQ (G R L) (.int q)<|.aZ 10,ox a,od,od,ob<|(ne_in (L:=L) c b).trans<|congrArg some e,od,od,oc d]
theorem WT(c:Tb R)(h:KM R m t)(j:m∈MU)(b:KM R k q)(a:k∈TK)(l:R.length+1<az):mG 59 [ak 10,ae t,ae q,dj false,dj true] n5 R L 2 (de m k):=by
 induction e:(decide (af k=[4])||decide (af k=[5]))with
 |true=>obtain⟨d,S,i,g,f⟩:=Z4 c h j b a l (L:=L);exact⟨d,S,ne_T c h b e i,g,f⟩
 |false=>obtain⟨d,S,i,g,f⟩:=Qd c h j b a (cM l) (L:=L);exact⟨d,S,ZQ c h b e i,g.up<|Tm _,f⟩
end
section
variable{R:List PV} {L:List GO} {p q t m k:Nat} {S:List PV}
theorem SZ(l):iv l=(l.map λ(n:Nat)=>(n:Int)).map .int:=by rw[bD];rfl
theorem OY{k:Nat}{l:List Nat}:((l.map λ(n:Nat)=>(n:Int)).any λi=>decide<|i=(k:Int))=decide (k∈l):=by
 induction l with
 |nil=>exact rfl
 |cons a l b=>rw[xL,oQ,b,<-bU];exact decide_eq_decide.mpr ⟨λh=>h.elim (λe=>yj.mp e▸.head _)<|.tail _,λh=>(rc.mp h).imp (λe=>congrArg Al e.symm) id⟩
theorem t4{k:Nat}:aS g .In (ae k) (dQ<|iv l)=some (decide<|k∈l):=by rw[SZ];exact pN OY
theorem mh{t b}(h:rs[i]?=some (some<|ak n))(c:g[n]?=some (.list l))(d:Ok (λf=>je (λs:St=>s.g) n (forTurn f t b) (l.length+1) 0 ⟨rs,g⟩) (none,a)):Ok (λf=>cH f (.bB t (.v i) b) ⟨rs,g⟩) (.dK,a):=Ok.two (F:=λf=>f.e (.v i) ⟨rs,g⟩) (Ok.of 1 λn=>Qs h) d λf o j=>bI o<|bI (show srcOf g (ak n)=some (.g n (l.length+1) 0) from bI c rfl)<|mI j rfl
def Vj(L:List GO)(j:Nat)(v:List PV)(S:List PV)(t:Nat)(o:Option Nat):St:=⟨[some<|ak 10,some<|ae t,some<|ak<|j+12,some<|ak 0,some<|dQ v,o.map λ(p:Nat)=>ae p],G S L⟩
inductive Zb(R:List PV)(N F:Nat)(r:List Nat)(S:List PV)(t:Nat):Prop
 |mk (c m:Nat) (ks:List Nat) (g:dU R c S) (f:c+2*r.length=N) (d:KM S m t) (b:m∈MU) (h:oL S r ks) (a:∀k∈ks,k∈TK) (e:ks.foldl de m=F):Zb R N F r S t
def Ck(m:Nat):List PV:=bif decide (3∈af m)then[.int 3]else[]
theorem Vi(h:c+2*(l+1)=N):c+2+2*l=N/\c+2<=N:=⟨(AT ..).trans h,h▸db (ut 2<|2*l) c⟩
theorem Lx(x:Tb R){N F j:Nat}{v:List PV}(n:R.length+N<az)(q r S t o)(h:Zb R N F (q::r) S t):T6 (Vj L j v) (Zb R N F r) (.v 5) (lb YY 3) q (Vj L j v S t o):=by
 obtain⟨z,m,ks,g,w,s,d,b,c,u⟩:=h;cases b with
 | @cons _ k _ ks l b=>
  have a:=Vi w;obtain⟨i,A,e,f,y⟩:=WT (g.tb x) s d l (c _<|.head _) (L:=L)<|ac (am (b6 g.len)<|db (am (Tm _) a.2) _) n
  exact⟨A,i,kt 10 [oc e],z+2,de m k,ks,g.trans f,a.1,y,i8 d,f.Nq b,λk h=>c k (.tail _ h),u⟩
def g8(m:Nat)(ks:List Nat):Nat:=bif decide (3∈af m)then au (orM [ks.foldl de m,1024])else ks.foldl de m
theorem mr(a:List Nat):(a.map af).flatten.length<=13*a.length:=by
 induction a with
 |nil=>exact v6 _
 |cons m a b=>rw[xL,cf,ch,FB,cC,wp];exact TE (b)<|rD m
theorem DA(s:Tb R)(h:KM R m t)(N:m∈MU){ks}(A:L[j]?=some (.list<|iv qs))(Q:oL R qs ks)(I:∀k∈ks,k∈TK)(z:R.length+2*qs.length<az):mG 60 [ak 10,ae t,ak<|j+12] [none,none,none] R L (2*qs.length+1) (g8 m ks):=by
 refine sA λC E=>?_;obtain⟨S,w,o,e,c,X,F,g,P,a,M,y,H,O⟩:=P5 (n:=j+12) (l:=iv qs) (t:=.v 5) (b:=lb YY 3) (S:=Vj L j<|Ck m) (J:=Zb R (2*qs.length)<|ks.foldl de m) (λ_ _ _=>A) (λq r S t o h=>Lx s z q r S t o h) (qs:=qs) (i:=0) (k:=(iv qs).length+1) (R:=R) (c:=t) (o:=none) rfl (by rw[aJ];exact Ix _) ⟨0,m,ks,.refl,ss _,h,N,Q,I,rfl⟩
 cases y;subst O P;have d:Ok (λf=>cH f (.bB (.v 5) (.v 2)<|lb YY 3)<|Vj L j (Ck m) R t none) (.dK,Vj L j (Ck m) S w o):=mh rfl A e
 refine E ?_;delta g8;delta Ck at d;induction u:decide (3∈af m)with
 |true=>
  rw[u]at d;have x:KM S 1024 3:=by delta KM;rw[show af 1024=[3] by decide];rfl
  obtain⟨D,W,V,U,T⟩:=jI (g.tb s) (L:=L) (bq.tup<|iv [w,3]) (.cons a<|.cons x .nil) (ac (mr [_,_]) (by decide:13*2<64))<|ac g.len z
  exact⟨D,W,kf 20 [oc<|cQ (G R L) (.int t)<|.aZ 10,oc<|fQ (L:=L) s h,ob<|(t4 (g:=G R L) (k:=3)).trans<|congrArg some u,os d,od,od,oc V],g.trans U,T⟩
 |false=>rw[u]at d;exact⟨w,S,kf 20 [oc<|cQ (G R L) (.int t)<|.aZ 10,oc<|fQ (L:=L) s h,ob<|(t4 (g:=G R L) (k:=3)).trans<|congrArg some u,os d,od],g.up<|Tm _,a⟩
end
section
variable{elt:Ex} {t:Tg} {cs:List Ex} {own:List Nat}
inductive UE(elt:Ex)(t:Tg)(cs:List Ex)(I:List PV->St->Prop)(u:PV)(a:List PV)(s:St):Prop
 |skip (c b:St) (i:bY t u s=some c) (h:Ok (λf=>iQ f cs c) (false,b)) (g:I a b):UE elt t cs I u a s
 |take (c b:St) (y:RV) (d:St) (i:bY t u s=some c) (h:Ok (λf=>iQ f cs c) (true,b)) (j:a.length<az) (k:Ok (λf=>f.e elt b) (y,d)) (g:I (a++[y.eJ]) d):UE elt t cs I u a s
inductive CtE(elt:Ex)(t:Tg)(cs:List Ex)(own:List Nat)(I:List PV->St->Prop)(u:PV)(z:List PV×St):Prop
 |mk (a:List PV) (s:St) (h:Ok (λf=>compTurn f own elt t cs u z) (none,(a,s))) (b:I a s):CtE elt t cs own I u z
theorem UE.ok (h:UE elt t cs I u q s):CtE elt t cs own I u (q,s):=by
 induction h with
 |skip H E D C z=>exact⟨q,E,sx D C,z⟩
 |take H E y F D C J L z=>exact⟨q++[y.eJ],F,fV D C J L,z⟩
inductive CpE(I:List PV->St->Prop)(F:iU->Option (Option Unit×(List PV×St))):Prop
 |mk (a:List PV) (s:St) (h:Ok F (none,(a,s))) (b:I a s):CpE I F
variable{I:List PV->List PV->St->Prop}
theorem aam{n l0}(d:∀r out s,I r out s->s.g[n]?=some (.list l0))(st:∀u r out s,I (u::r) out s->UE elt t cs (I r) u out s){l}:∀{out i k s},l0.drop i=l->l.length<k->I l out s->CpE (I []) λf=>je (λz:List PV×St=>z.2.g) n (compTurn f own elt t cs) k i (out,s):=by
 induction l with
 |nil=>
  intro out;intro i;intro c;induction c with
  |zero=>exact@λ_ _ a _=>absurd a<|dF _
  |succ k=>
   intro s e _ h;refine⟨out,s,Ok.pure.congr λf=>?_,h⟩;refine(M4 (gl:=λz:List PV×St=>z.2.g)<|d _ _ _ h).trans ?_
   show(match l0[i]? with|none=>_|some x=>_)=_
   exact(dy.mpr<|fy.mp e)▸rfl
 |cons u l o=>
  intro out;intro i;intro b;induction b with
  |zero=>exact@λ_ _ a _=>absurd a<|dF _
  |succ k=>
   intro s e a h;obtain⟨E,D,y,q⟩:=(st u l out s h).ok (own:=own);have v:l0[i]?=some u:=by have:=congrArg jB e;rw[lM]at this;exact this
   obtain⟨m,j,w,p⟩:=o (i:=i+1) (k:=k) (by have:=congrArg yh e;rw[nu]at this;exact this) (bg a) q
   refine⟨m,j,y.two w λf C A=>?_,p⟩;refine(M4 (gl:=λz:List PV×St=>z.2.g)<|d _ _ _ h).trans ?_
   show(match l0[i]? with|none=>_|some x=>_)=_
   refine v▸?_;exact bI C A
end
section
variable{R:List PV} {L:List GO} {q t m k p:Nat} {l:List Nat}
theorem any_map{l:List Nat}{t}:uK g .any (.ml t<|l.map λq=>.bool<|F q)=some (dj<|l.any F):=mI (bI (f:=boolsOf) rfl vZ) (by rw[Un];rfl)
def YJ(p h:Nat):Bool:=decide ((gu h:Int)=gu p)&&jQ h
def wK(p:Nat)(l:List Nat):Nat:=bif decide ((p:Int)=6\/(p:Int)=7)&&l.all (YJ p)then au (orM<|l.map kq)else kq p
inductive X5(a:Nat)(b:List RV)(R:List PV)(L:List GO)(c m:Nat):Prop
 |mk (t:Nat) (z:Option RV) (S:List PV) (e:ai a b (G R L) (ae t) [none,none,z] (G S L)) (g:dU R c S) (k:KM S m t):X5 a b R L c m
def YI(p:Nat)(x a:Option RV)(g:List GO):St:=⟨[some<|ak 0,some<|ae p,x,some<|ae<|gu p,a,none],g⟩
theorem Dw(a:(p,b)∈dW):KM S (kq p) p:=by delta KM;rw[t6 (p,b) a];rfl
theorem L2(b:Tb R)(o:Af l)(n:l.length<az):Ok (λf=>f.e (.bi .all<|.comp (.and [(.cmp .Eq (.call 20 [(.v 0),(.v 4)])<|.v 3),(.cmp .NotEq (.call 48 [(.v 0),(.v 4)])<|.tup [])]) [(.v 4,(.v 2),[])])<|YI p (some<|.ml (some 2)<|iv l) none<|G R L) (dj<|l.all<|YJ p,YI p (some<|.ml (some 2)<|iv l) none<|G R L):=by
 obtain⟨y,h⟩:=xd (j:=4) (cs:=[]) (rs:=(YI p none none<|G R L).r) (g:=G R L) (qs:=l) (out:=[]) (y:=none) (p:=λ_=>true) (F:=λq=>.bool<|YJ p q) (elt:=.and [(.cmp .Eq (.call 20 [(.v 0),(.v 4)])<|.v 3),(.cmp .NotEq (.call 48 [(.v 0),(.v 4)])<|.tup [])]) (by rw[tz,ss];exact n) (λ_ _=>d9) λq d _=>by obtain⟨c,a⟩:=o q d;exact ow (ke 5 [oc<|pG (L:=L) b a,ob<|ao (g:=G R L) (i:=(gu q)) (j:=(gu p)) rfl]) (ke 5 [oc<|xc (L:=L) b a,ob<|U' (g:=G R L) a])
 rw[Ab,GM]at h;exact pH rfl (mW (t:=.v 4) (s:=YI p (some<|.ml (some 2)<|iv l) none<|G R L) (i:=2) (tg:=some 2) (l:=iv l) rfl rfl h) all_map
theorem Nv(d:Tb R)(c:(p,b)∈dW)(w:2<=p)(r:Af l)(o:l.length<64)(v:R.length<az):X5 51 [ak 0,ae p,.ml (some 2)<|iv l] R L 1 (wK p l):=by
 refine aO (Dy d c) λu n j=>?_;have f0:=(by decide:∀a∈dW,2<=a.1->decide ((gu a.1:Int)=0)=false) (p,b) c w
 have i:decide (u=18)=false:=decide_eq_false λe=>absurd (e▸j) (by decide)
 have f:=L2 (p:=p) d r (Ev o (by decide)) (L:=L)
 delta wK;induction e:decide ((p:Int)=6\/(p:Int)=7)with
 |false=>exact⟨p,some<|.ml (some 2)<|iv l,R,kf 20 [oc<|pG (L:=L) d c,ob<|(rO (g:=G R L) p 6 7).trans<|congrArg some e,oc<|IV (L:=L) n,ob<|ao (g:=G R L) i,ob<|ao (g:=G R L) f0],.refl,Dw c⟩
 |true=>
  induction s:l.all (YJ p)with
  |false=>rw[s]at f;exact⟨p,some<|.ml (some 2)<|iv l,R,kf 20 [oc<|pG (L:=L) d c,ob<|(rO (g:=G R L) p 6 7).trans<|congrArg some e,ox f,od,ob<|ao (g:=G R L) f0],.refl,Dw c⟩
  |true=>
   rw[s]at f;obtain⟨t,S,x,g,h⟩:=l9 d (L:=L) (bq.ml<|iv l) r o v
   exact⟨t,none,S,kf 20 [oc<|pG (L:=L) d c,ob<|(rO (g:=G R L) p 6 7).trans<|congrArg some e,ox f,od,oc x],g,h⟩
noncomputable def KO(t q:Nat)(g:List GO)(out:List PV)(o:Option Nat):St:=⟨[some<|ak 0,some<|ae t,some<|ae q,some<|dj true,some<|.ml none out,o.map λ(p:Nat)=>ae p,none],g⟩
def Ms(k p:Nat):Bool:=E1 p&&(af k).any (PH p)
theorem Mr(a:Tb R)(n:KM R k q)(i:(p,b)∈dW):Ok (λf=>f.e (.bi .any<|.comp (.call 49 [(.v 0),(.v 5),(.v 6),(.v 3)]) [(.v 6,(.call 10 [(.v 0),(.v 2)]),[])])<|KO t q (G R L) out<|some p) (dj<|(af k).any<|PH p,KO t q (G R L) out<|some p):=by
 obtain⟨y,h⟩:=xd (j:=6) (cs:=[]) (rs:=(KO t q (G R L) out<|some p).r) (g:=G R L) (qs:=af k) (out:=[]) (y:=none) (p:=λ_=>true) (F:=λq=>.bool<|PH p q) (elt:=.call 49 [(.v 0),(.v 5),(.v 6),(.v 3)]) (by rw[tz,ss];exact kX k) (λ_ _=>d9) λu d _=>(cP d).elim λc o=>ke 5 [oc<|WM (L:=L) a i o]
 rw[Ab,GM]at h;exact pH rfl (fR (t:=.v 6) (x:=dQ<|iv<|af k) (s:=KO t q (G R L) out<|some p) (s1:=KO t q (G R L) out<|some p) (src:=.l<|iv<|af k) rfl (ke 5 [oc<|fQ (L:=L) a n]) rfl h) any_map
theorem Mp(d:Tb R)(u:KM R k q)(c:(p,b)∈dW)(w:2<=p)(o)(r:out.length<az):oF (.v 5) (lb f52 3) (.int (p:Int)) (KO t q (G R L) out o) (KO t q (G R L) (bif Ms k p then out++[.int (p:Int)]else out)<|some p):=by
 have h:=Mr (t:=t) (out:=out) d u c (L:=L);delta Ms;have y:=eU (s:=KO t q (G R L) out<|some p) (i:=4) (x:=.int (p:Int)) (out:=out) rfl r (s':=KO t q (G R L) (out++[.int (p:Int)])<|some p) rfl
 induction e:E1 p with
 |true=>
  cases n:(af k).any (PH p)with
  |true=>rw[n]at h;exact kt 20 [oc<|pG (L:=L) d c,ob<|(xj (g:=G R L) _).trans<|congrArg some e,ox h,od,om y]
  |false=>rw[n]at h;exact kt 20 [oc<|pG (L:=L) d c,ob<|(xj (g:=G R L) _).trans<|congrArg some e,ox h,od]
 |false=>
  have f:=(by decide:∀a∈dW,2<=a.1->E1 a.1=false->decide (a.1<=5)=false/\decide ((a.1:Int)=0\/(a.1:Int)=13)=false) (p,b) c w e
  have j:ai 47 [ak 0,ae p] (G R L) (dj<|decide<|p<=5) [none,none] (G R L):=WQ d c
  rw[f.1]at j;exact kt 20 [oc<|pG (L:=L) d c,ob<|(xj (g:=G R L) _).trans<|congrArg some e,ob<|(rO (g:=G R L) p 0 13).trans<|congrArg some f.2,oc j,od]
theorem Z7(f:Tb R)(h:KM R m t)(u:∀p∈af m,2<=p)(w:t≠1)(r:KM R k q)(n:R.length<az):mG 52 [ak 0,ae t,ae q,dj true] [none,none,none,none] R L 1 (au<|orM<|((af m).filter<|Ms k).map kq):=by
 obtain⟨o,a⟩:=Im (t:=.v 5) (b:=lb f52 3) (after:=KO t q<|G R L) (p:=Ms k) (F:=λp=>.int (p:Int)) (ts:=af m) (out:=[]) (o:=none) (by rw[tz,ss];exact kX m) λp d out o j=>(cP d).elim λc s=>Mp f r s (u p d) o j
 obtain⟨i,S,e,g,x⟩:=l9 f (L:=L) (bq.ml<|iv<|(af m).filter<|Ms k) (λp d=>cP (Re.mp d).1) (xk m _) n
 exact⟨i,S,kf 20 [od,ob<|ao (g:=G R L)<|jc (k:=1) w,oc<|fQ (L:=L) f h,ol<|cz (src:=.l _) a,oc e],g,x⟩
end
section
variable{R:List PV} {L:List GO} {q b t k p:Nat}
def hits(k p:Nat):List Nat:=(af k).filter<|PH p
def rP(k p:Nat):List Nat:=if hits k p=[]then[]else[wK p<|hits k p]
def KL(L:List GO)(t q:Nat)(S:List PV)(c:List PV×Option RV)(o:Option Nat):St:=⟨[some<|ak 0,some<|ae t,some<|ae q,some<|dj true,some<|.ml none c.1,o.map λ(p:Nat)=>ae p,c.2,none],G S L⟩
inductive Zf(R:List PV)(k N:Nat)(F:List Nat)(r:List Nat)(S:List PV)(c:List PV×Option RV):Prop
 |mk (d:Nat) (a e:List Nat) (g:dU R d S) (l:d+r.length=N) (f:a.length+r.length<=N) (h:c.1=iv a) (i:oL S a e) (m:∀p∈r,2<=p/\∃b,(p,b)∈dW) (j:e++r.flatMap (rP k)=F):Zf R k N F r S c
theorem VO{d l N u c R}(h:d+(l+1)=N)(a:u+(l+1)<=N)(f:N<=13)(e:R+N<=c):d+1+l=N/\u+1+l<=N/\u+l<=N/\u<64/\R+d<c:=⟨(AT ..).trans h,am (EQ (AT ..)) a,cN a,ac (am (pp u _)<|am a f) (ut ..),bh (fY (h▸gK (wv l)) R) e⟩
theorem Mc(d:Tb S)(m:KM S k q)(i:(p,b)∈dW):Ok (λf=>f.e (.comp (.v 7) [(.v 7,(.call 10 [(.v 0),(.v 2)]),[(.call 49 [(.v 0),(.v 5),(.v 7),(.v 3)])])])<|KL L t q S c<|some p) (.ml none<|iv<|hits k p,KL L t q S c<|some p):=by
 obtain⟨y,h⟩:=xd (j:=7) (cs:=[.call 49 [(.v 0),(.v 5),(.v 7),(.v 3)]]) (rs:=(KL L t q S c<|some p).r) (g:=G S L) (qs:=af k) (out:=[]) (y:=none) (p:=PH p) (F:=λq=>.int (q:Int)) (elt:=.v 7) (by rw[tz,ss];exact kX k) (λu a=>(cP a).elim λw o=>jk<|kb 5 [oc<|WM (L:=L) d i o,od]) λu a _=>Ok.of 1 λn=>Qs rfl
 rw[GM]at h;exact fR (t:=.v 7) (x:=dQ<|iv<|af k) (s:=KL L t q S c<|some p) (s1:=KL L t q S c<|some p) (src:=.l<|iv<|af k) rfl (ke 5 [oc<|fQ (L:=L) d m]) rfl h
theorem Mb(U:Tb R){N:Nat}{F:List Nat}(V:N<=13)(O:R.length+N<=az)(P:KM R k q)(p r S c o)(h:Zf R k N F (p::r) S c):T6 (KL L t q) (Zf R k N F r) (.v 5) (lb f53 3) p (KL L t q S c o):=by
 obtain⟨d,f,y,g,T,J,M,m,D,Q⟩:=h;obtain⟨c1,c2⟩:=c;subst M;obtain⟨W,b,w⟩:=D p<|.head _
 have a:=VO T J V O;have E:=g.tb U;have A:=Mc (L:=L) (t:=t) (c:=(iv f,c2)) E (g.km P) w;have j:y++(rP k p++r.flatMap (rP k))=F:=Q;have n:∀p∈r,2<=p/\∃b,(p,b)∈dW:=λp h=>D p<|.tail _ h
 delta rP at j;by_cases e:hits k p=[]
 .replace j:=(if_pos e)▸j;rw[e]at A;exact⟨S,(iv f,some<|.ml none<|iv []),kt 20 [ox A,od],d+1,f,y,g.up<|Tm _,a.1,a.2.2.1,rfl,m,n,j⟩
 .rw[if_neg e]at j;have I:cF (G S L) (.ml none<|iv<|hits k p)=some true:=by
   induction Z:hits k p with
   |nil=>exact absurd Z e
   |cons=>rfl
  obtain⟨u,z,C,Y,H,X⟩:=Nv E w W (l:=hits k p) (L:=L) (λp w=>cP (Re.mp w).1) (xk k _)<|ac g.len a.2.2.2.2
  exact⟨C,(iv (f++[u]),z.map (RV.gR none)),kt 20 [ox A,ob I,oc Y,om (eU (s:=KL L t q C (iv f,z.map (RV.gR none)) (some p)) (i:=4) (x:=.int (u:Int)) (out:=iv f) rfl (by rw[aJ];exact Ev a.2.2.2.1 (by decide)) (s':=KL L t q C (iv (f++[u]),z.map (RV.gR none)) (some p)) (by rw[gF];rfl))],d+1,f++[u],y++[wK p (hits k p)],g.trans H,a.1,by rw[ch];exact a.2.1,rfl,(H.Nq m).snoc X,n,by rw[sK];exact j⟩
theorem WN(i:Tb R)(h:KM R m t)(y:∀p∈af m,2<=p)(z:t≠1)(s:KM R k q)(a:PQ k=false->(((af m).flatMap<|rP k).map af).flatten.length<64)(j:R.length+13<az):mG 53 [ak 0,ae t,ae q,dj true] [none,none,none,none] R L 14 (bif PQ k then au (orM<|((af m).filter<|Ms k).map kq)else au (orM<|(af m).flatMap<|rP k)):=by
 have f:=WR i s (L:=L);have E:=ac (pp _ 13) j;have u:=ao (g:=G R L)<|jc (k:=1) z
 revert f a;induction PQ k with
 |true=>intro _ f;obtain⟨r,S,e,g,H⟩:=Z7 (L:=L) i h y z s E;exact⟨r,S,kf 20 [ob u,oc f,od,oc e],g.up<|wv _,H⟩
 |false=>
  intro a f;obtain⟨S,c,o,e,d,A,O,g,D,P,C,n,_,x⟩:=Il (t:=.v 5) (b:=lb f53 3) (S:=KL L t q) (J:=Zf R k (af m).length<|(af m).flatMap<|rP k) (λp r S c o h=>Mb i (rD m) (am (db (rD m) _)<|ck j) s p r S c o h) (R:=R) (c:=([],none)) (o:=none) ⟨0,[],[],.refl,ss _,by rw[tz,ss];exact v6 _,rfl,.nil,λp w=>⟨y p w,cP w⟩,rfl⟩
  rw[Kz,u8]at x;subst D x;obtain⟨u,Q⟩:=c;subst C;obtain⟨r,N,M,I,F⟩:=jI (g.tb i) (L:=L) (bq.ml<|iv A) n (a rfl)<|ac g.len<|ac (db (rD m) _) j
  exact⟨r,N,kf 20 [ob u,oc f,od,oc<|fQ (L:=L) i h,ol<|cz (src:=.l _) e,oc M],(g.up<|rD m).trans I,F⟩
end
noncomputable def t7(b k:Nat):Nat:=bif co b 2||co b 5 then(bif (k&&&7<<<(b - 2)).testBit b then 1<<<b else k&&&7<<<(b - 2)) else bif SL b 5 then(bif co (k&&&(1<<<b|||(bif SL b 2 then 4 else 32))) 0 then 0 else 1<<<b) else bif SL 8 b then(bif co (k&&&1536) 0 then 0 else 1<<<b) else 1<<<b&&&k
def FW(p:Nat):Nat:=((dW.find? λa=>co a.1 p).map λa=>a.2).getD 0
def nW(m k:Nat):Nat:=bif oo m k then m else au (orM<|(af m).map λp=>t7 (FW p) k)
theorem NQ:(dW.all λa=>SL a.1 2||TK.all λk=>decide (af k=[0])||(decide (af k=[1])|| bif PQ k then co (bif Ms k a.1 then kq a.1 else 0) (t7 (FW a.1) k)else co (orM (rP k a.1)) (t7 (FW a.1) k)&&bx ((rP k a.1).map af).flatten.length 2))=true:=by decide+kernel
theorem MK:(MU.all λm=>decide (af m=[0])||(af m).all λp=>bx 2 p)=true:=by decide+kernel
theorem HQ(ms):∀(a),ms.foldl (· ||| ·) a=a|||orM ms:=by
 induction ms with
 |nil=>exact@λa=>(fE a).symm
 |cons m ms b=>
  intro a;show ms.foldl (· ||| ·) (a|||m)=a|||ms.foldl (· ||| ·) (0|||m)
  rw[b,b,eP,cg]
theorem cw(m)(a):orM (m::a)=m|||orM a:=(HQ a<|0|||m).trans (by rw[eP])
theorem C6(l):∀(m),orM (l++m)=orM l|||orM m:=by
 induction l with
 |nil=>exact@λm=>(eP _).symm
 |cons a l b=>intro m;rw[List.cons_append,cw,cw,b m,cg]
theorem ym:∀{l:List Nat},(∀p∈l,orM (f p)=h p/\((f p).map af).flatten.length<=2)->orM (l.flatMap f)=orM (l.map h)/\((l.flatMap f).map af).flatten.length<=2*l.length
 |[],_=>⟨rfl,v6 _⟩
 |p::l,e=>by
  have i:=ym (f:=f) (h:=h) (l:=l) λp m=>e p<|.tail _ m
  have j:=e p<|.head _
  rw[dH,C6,xL,cw,i.1,j.1,AC,List.flatten_append,ch,FB,cC,wp];exact⟨rfl,TE i.2 j.2⟩
theorem yn:∀{l:List Nat},(∀p∈l,(bif s p then kq p else 0)=h p)->orM ((l.filter s).map kq)=orM (l.map h)
 |[],_=>rfl
 |p::l,e=>by
  have i:=yn (s:=s) (h:=h) (l:=l) λp m=>e p<|.tail _ m
  have j:=e p<|.head _
  rw[xL,cw,aX];induction q:s p with
  |true=>rw[q]at j;rw[if_pos rfl,xL,cw,i,show kq p=h p from j]
  |false=>rw[q]at j;rw[if_neg xz,i,show h p=0 from j.symm,eP]
theorem SI(r:Tb R)(h:KM R m t)(o:m∈MU)(w:KM R k q)(j:k∈TK)(lo:oo m k=false)(v:R.length+13<az):mG 53 [ak 0,ae t,ae q,dj true] [none,none,none,none] R L 14 (nW m k):=by
 have d:=b5.mp lo;have lk:=b5.mp d.2;have u:∀p∈af m,2<=p:=λp c=>by have:=bv.mp MK m o;rw[d.1,Os]at this;exact io<|bv.mp this p c
 have g:∀p∈af m,(bif PQ k then co (bif Ms k p then kq p else 0) (t7 (FW p) k)else co (orM<|rP k p) (t7 (FW p) k)&&bx ((rP k p).map af).flatten.length 2)=true:=λp c=>by
  refine fN (cP c) λb x=>?_;have:=bv.mp NQ (p,b) x;rw[show SL p 2=false from Uf.mpr λe=>absurd (io e)<|ql.mpr<|gY<|u p c,Os]at this
  have:=bv.mp this k j;rw[lk.1,lk.2,Os,Os]at this;exact this
 have i:=λn=>WN (L:=L) r h u (h.ZR r (Dj o).2.2) w n v;delta nW;refine lo▸?_;induction e:PQ k with
 |true=>
  rw[e]at g i;refine(yn (s:=Ms k) λp c=>ii<|g p c)▸?_
  exact i λe=>ff e.symm
 |false=>rw[e]at g i;have z:=ym (f:=rP k) (h:=λp=>t7 (FW p) k) (l:=af m) λp c=>aE (g p c) λa b=>⟨ii a,io b⟩;refine z.1▸?_;exact i λ_=>(ac z.2<|ac (FS 2<|rD m) (by decide))
theorem WS(f:Tb R)(h:KM R m t)(j:m∈MU)(i:KM R k q)(d:k∈TK)(n:R.length+13<az):mG 59 [ak 10,ae t,ae q,dj true,dj true] n5 R L 14 (nW m k):=by
 have a:=H7 (y:=true) (L:=L) f h i;replace a:=(eq_of_beq<|bv.mp (bv.mp Ry m j) k d)▸a
 have b:=y8 f h i;induction lo:oo m k with
 |false=>rw[lo]at a b;obtain⟨r,S,e,g,o⟩:=SI f h j i d lo n (L:=L);exact⟨r,S,kf 20 [oc<|cQ (G R L) (.int t)<|.aZ 10,oc<|cQ (G R L) (.int q)<|.aZ 10,ox a,od,od,oc<|tV (y:=true) b e],g,o⟩
 |true=>
  rw[lo]at a b;have l:=ao (g:=G R L)<|jc (k:=1)<|h.ZR f (Dj j).2.2
  have c:=WR f i (L:=L);have y:nW m k=m:=by delta nW;exact lo▸rfl
  rw[y];revert c;cases PQ k with
  |true=>exact λc=>⟨t,R,kf 20 [oc<|cQ (G R L) (.int t)<|.aZ 10,oc<|cQ (G R L) (.int q)<|.aZ 10,ox a,od,od,od,ob l,oc c,od,oc<|IT (R:=R) (L:=L) (y:=true) b],.refl,h⟩
  |false=>
   intro c;induction e:decide ((t:Int)=0\/(t:Int)=13)with
   |true=>exact⟨t,R,kf 20 [oc<|cQ (G R L) (.int t)<|.aZ 10,oc<|cQ (G R L) (.int q)<|.aZ 10,ox a,od,od,od,ob l,oc c,od,ob<|(rO (g:=G R L) t 0 13).trans<|congrArg some e],.refl,h⟩
   |false=>delta loose at b;rw[e,Os,cB]at b;exact⟨t,R,kf 20 [oc<|cQ (G R L) (.int t)<|.aZ 10,oc<|cQ (G R L) (.int q)<|.aZ 10,ox a,od,od,od,ob l,oc c,od,ob<|(rO (g:=G R L) t 0 13).trans<|congrArg some e,ob<|(Fm (g:=G R L) q 0 13 1).trans<|congrArg some b],.refl,h⟩
def vd(m:Nat):Nat:=au<|orM [m,1024]
theorem Di:(MU.all λm=>(!decide (3∈af m)||MU.contains (vd m))&&(!MU.contains (vd m)||U8.all λk=>MU.contains<|vd<|de m k))=true:=by decide+kernel
section
variable{R:List PV} {L:List GO} {t m k:Nat} {l:List Nat}
theorem MO:U8.contains k=true\/de m k=m:=by
 induction u:U8.contains k with
 |false=>exact .inr (by delta de;rw[u,if_neg xz,ite_self])
 |true=>exact .inl rfl
theorem Cm{ks:List Nat}:∀{m},m∈MU->MU.contains (vd m)=true->MU.contains (vd<|ks.foldl de m)=true:=by
 induction ks with
 |nil=>exact@λ_ _ h=>h
 |cons k ks b=>
  exact@λm a h=>b (i8 a) (by
   rcases MO (m:=m) (k:=k)with u|e
   .have:=(sB.mp<|bv.mp Di m a).2
    rw[h,cS,Os]at this;exact bv.mp this k<|wf.mp u
   .rw[e];exact h)
theorem NY{ks:List Nat}:∀{m},m∈MU->ks.foldl de m∈MU:=by
 induction ks with
 |nil=>exact@λ_ h=>h
 |cons _ ks a=>exact@λ_ h=>a<|i8 h
theorem yt{ks}(a:m∈MU):g8 m ks∈MU:=by
 delta g8;induction e:decide (3∈af m)with
 |false=>exact NY a
 |true=>
  have:=(sB.mp<|bv.mp Di m a).1
  rw[e,cS,Os]at this;exact wf.mp<|Cm a this
def KJ(L:List GO)(t j a r:Nat)(d:Bool)(S:List PV)(o:Option RV):St:=⟨[some<|ak 10,some<|ae t,some<|ak<|j+12,some<|ak<|a+12,some<|dj d,some<|ae r,some<|ae ((bif d then t else r:Nat):Int),none,o],G S L⟩
inductive Zc(L:List GO)(t j f r:Nat)(d:Bool)(R:List PV)(m N M:Nat)(F:List Nat)(l out:List PV)(s:St):Prop
 |mk (S:List PV) (o:Option RV) (c:Nat) (a ks b e:List Nat) (y:l=iv a) (x:out=iv b) (w:s=KJ L t j f r d S o) (g:dU R c S) (u:c+14*a.length=N) (h:b.length+a.length=M) (n:KM S m (bif d then t else r)) (v:oL S a ks) (i:∀k∈ks,k∈TK) (p:oL S b e) (q:e++ks.map (nW m)=F):Zc L t j f r d R m N M F l out s
theorem Vs{c l N u M R C}(h:c+14*(l+1)=N)(a:u+(l+1)=M)(d:M<=3)(b:R+N<C):c+14+14*l=N/\u+1+l=M/\u<az/\R+c+13<C:=⟨(AT ..).trans h,(AT ..).trans a,ac (am (pp u (l+1)) (a▸d)) (by decide),ac (by rw[wn];exact db (h▸db (am (by decide:13<=14) (ut 14 (14*l))) c) R) b⟩
theorem LR{j b r N M:Nat}{d:Bool}{F:List Nat}(Q:Tb R)(H:m∈MU)(T:M<=3)(I:R.length+N<az)(u l out s)(h:Zc L t j b r d R m N M F (u::l) out s):UE (.call 59 [(.v 0),(.v 6),(.v 8),(.c<|.bool true),(.c<|.bool true)]) (.v 8) [] (Zc L t j b r d R m N M F l) u out s:=by
 obtain⟨S,o,c,p,ks,n,C,z,W,V,g,P,D,y,i,w,J,O⟩:=h;cases i with
 |nil=>cases z
 | @cons q k p ks E i=>
  cases z;subst W V;have a:=Vs P D T I;obtain⟨x,A,e,f,U⟩:=WS (g.tb Q) y H E (w _<|.head _) (L:=L)<|ac (lf g.len 13) a.2.2.2
  exact .take (KJ L t j b r d S<|some<|ae q) (KJ L t j b r d S<|some<|ae q) (ae x) (KJ L t j b r d A<|some<|ae q) rfl d9 (by rw[aJ];exact a.2.2.1) (ke 5 [oc e]) ⟨A,_,c+14,p,ks,n++[x],C++[nW m k],rfl,gF n x,rfl,g.trans f,a.1,by rw[ch];exact a.2.1,f.km y,f.Nq i,λk h=>w k<|.tail _ h,(f.Nq J).snoc U,by rw[sK];exact O⟩
def wF(m:Nat)(ks a:List Nat)(d:Bool):Nat:=au<|orM (bif d then a.map (nW m)++[g8 m ks]else a.map (nW<|g8 m ks))
theorem IL(E:Tb R)(h:KM R m t)(M:m∈MU){ks}(hj:L[j]?=some (.list<|iv F))(ha:oL R F ks)(ht:∀k∈ks,k∈TK)(C:L[p]?=some (.list<|iv a))(P:oL R a b)(H:∀k∈b,k∈TK)(hq:F.length<=3)(z:a.length<=3)(N:R.length+50<az):mG 61 [ak 10,ae t,ak<|j+12,ak<|p+12,dj d] n5 R L 50 (wF m ks b d):=by
 have l7:=b6<|FS 2 hq
 have A:=FS 14 z;obtain⟨r,S,e,g,hr⟩:=DA E h M hj ha ht (L:=L)<|ac (db (am (Tm _)<|am l7 (by decide)) _) N
 have g:=g.up l7;have hs:KM S (bif d then m else g8 m ks) (bif d then t else r):=by
  induction d with
  |true=>exact g.km h
  |false=>exact hr
 have J:(bif d then m else g8 m ks)∈MU:=by
  induction d with
  |true=>exact M
  |false=>exact yt M
 have ll:=ac (TE g.len A)<|ac (by rw[wn];exact db (by decide) _) N
 obtain⟨out,s',e2,Y,o,c,qs',ks',w,ms,el,eo,V,g2,hc,D,hs2,Q,ht',O,hf⟩:=aam (n:=p+12) (l0:=iv a) (own:=[8]) (elt:=.call 59 [(.v 0),(.v 6),(.v 8),(.c<|.bool true),(.c<|.bool true)]) (t:=.v 8) (cs:=[]) (I:=Zc L t j p r d S (bif d then m else g8 m ks) (14*a.length) a.length<|b.map<|nW (bif d then m else g8 m ks)) (λ_ _ _ h=>by obtain⟨S,o,c,F,ks,w,ms,el,eo,V,_⟩:=h;exact V▸C) (λu l out s h=>LR (g.tb E) J z ll u l out s h) (out:=[]) (i:=0) (k:=(iv a).length+1) (s:=KJ L t j p r d S none) rfl (Ix _) ⟨S,none,0,a,b,[],[],rfl,rfl,rfl,.refl,ss _,ss _,hs,g.Nq P,H,.nil,rfl⟩
 induction Q with
 |cons=>cases el
 |nil=>
  subst eo V;rw[jq,u8]at hf;subst hf;have D:w.length=a.length:=D;subst hc;have q:=g.trans<|g2.up A
  have cm:Ok (λf=>f.e (.comp (.call 59 [(.v 0),(.v 6),(.v 8),(.c<|.bool true),(.c<|.bool true)]) [(.v 8,.v 3,[])])<|KJ L t j p r d S none) (.ml none<|iv w,KJ L t j p r d Y none):=eH (t:=.v 8) (i:=3) (y:=.aZ<|p+12) (s:=KJ L t j p r d S none) (src:=.g (p+12) ((iv a).length+1) 0) rfl (bI C rfl) e2
  have Z:=ac q.len<|ac (db (by decide:7+42<=50) _) N
  have u3:w.length<az:=D▸ac z (by decide)
  have m3:(b.map<|nW (bif d then m else g8 m ks)).length<=3:=O.len▸D▸z
  induction d with
  |true=>
   obtain⟨x,X,W,U,T⟩:=jI (q.tb E) (L:=L) (bq.ml<|iv<|w++[r]) (O.snoc<|g2.km hr) (ac (mr _) (by rw[ch];exact ac (FS 13<|b6 m3) (by decide))) Z
   exact⟨x,X,kf 20 [oc e,od,ox cm,od,om<|eU (s:=(KJ L t j p r true Y none).put 7<|some<|.ml none<|iv w) (i:=7) (x:=.int (r:Int)) (out:=iv w) rfl (by rw[aJ];exact u3) (s':=(KJ L t j p r true Y none).put 7<|some<|.ml none<|iv<|w++[r]) (by rw[gF];rfl),oc W],(q.trans U).up (by decide),T⟩
  |false=>
   obtain⟨x,X,W,U,T⟩:=jI (q.tb E) (L:=L) (bq.ml<|iv w) O (ac (mr _)<|ac (FS 13 m3) (by decide)) Z
   exact⟨x,X,kf 20 [oc e,od,ox cm,od,oc W],(q.trans U).up (by decide),T⟩
end
def qN(a b:Nat):Nat:=if a=b then a else if gu a=5/\gu b=6 then a else if gu a=6/\gu b=5 then b else if gu a=0\/gu b=0 then 0 else if gu a≠gu b then 2 else if a=6\/a=7 then b else if b=6\/b=7 then a else 2
noncomputable def AN:List Nat:=[3,4,5,6,7,8,9,17,18,19,20]
theorem Sa(n)(X)(L):(AN.map λ(a:Nat)=>AN.map λ(b:Nat)=>(ev FT CT<|n+60).call 44 [ak 0,ae a,ae b]<|G (B++X) L)=AN.map λ(a:Nat)=>AN.map λ(b:Nat)=>some (ae (qN a b:Nat),[none,none,none],G (B++X) L):=by kernel_rfl
theorem MN:(AN.all λa=>AN.all λb=>co (qN a b) 2||dW.any λx=>co x.1<|qN a b)=true:=by decide+kernel
def nr(p:Nat)(l:List Nat):List Nat:=bif co p 2 then l else fp l p
def meets(c b:Nat):List Nat:=((af c).flatMap λa=>(af b).map<|qN a).filter λp=>!co p 2
def tH(b a:Nat):Nat:=bif decide (af b=af a)||decide (af a=[1])then b else bif decide (af b=[1])then a else au (orM<|(meets b a).map kq)
section
variable{R:List PV} {t k:Nat} {l:List Nat}
theorem WU(e:Tb R)(d:a∈AN)(c:b∈AN):ai 44 [ak 0,ae a,ae b] (G R L) (ae<|qN a b) [none,none,none] (G R L):=by obtain⟨X,rfl⟩:=e;exact Aq λn=>dg (n+60)▸ww.mp (ww.mp (Sa n X L) a d) b c
theorem S0{l a}(h:iv l=iv a):l=a:=(Ga (f:=λ(n:Nat)=>PV.int (n:Int)) λ_ _ h=>yj.mp<|PV.int.inj h).mp h
def ZJ(R:List PV)(t:Nat):Option (List PV):=if t=2 then some []else R[t]?.bind λx=>x.lD.bind λl=>l.head?.bind λk=>k.int?.bind λk=>if k=6 then l.tail.head?.bind PV.lD else some [.int (t:Int)]
theorem As.fn (h:As R t l):ZJ R t=some (iv l):=by
 induction h with
 |never=>rfl
 |one h u q=>exact(if_neg q).trans<|bI h<|if_neg u
 |union h q=>exact(if_neg q).trans<|bI h rfl
theorem As.same {l q} (h:As R t l) (u:As R t q):l=q:=S0<|bn<|h.fn.symm.trans u.fn
theorem KM.same (q:Tb R) (h:KM R m t) (z:KM R u t):af m=af u:=(h.YK q).same<|z.YK q
theorem KM.dec (C:Tb R) (h:KM R m t) (u:KM R z q):decide (t=q)=decide (af m=af z):=decide_eq_decide.mpr ⟨λe=>h.same C<|e▸u,λe=>bz.inj h<|show bz R (af m) q from e▸u⟩
theorem w8{d:Type}{t b}{after:d->Option Nat->St}{f}{P:List Nat->d->Prop}(st:∀q r c o,P (q::r) c->oF t b (.int (q:Int)) (after c o) (after (f c q)<|some q)/\P r (f c q)):∀{c o},P qs c->∃a,Ok (λf=>bb (forTurn f t b) (iv qs)<|after c o) (none,after (qs.foldl f c) a)/\P [] (qs.foldl f c):=by
 induction qs with
 |nil=>exact@λc o h=>⟨o,cT,h⟩
 |cons q qs e=>intro c o h;obtain⟨m,j⟩:=st q qs c o h;refine aO (e (o:=some q) j) λa i g=>?_;exact⟨a,aQ m i,g⟩
end
section
variable{p a:Nat}
theorem Ig{x p l}:x∈nr p l↔x∈l\/(x=p/\co p 2=false):=by
 delta nr;induction e:co p 2 with
 |true=>exact⟨.inl,λh=>h.elim id λh=>ff h.2.symm⟩
 |false=>exact pA.trans ⟨λh=>h.imp id λh=>⟨h,rfl⟩,λh=>h.imp id λh=>h.1⟩
theorem tS{p l}:(nr p l).length<=l.length+1:=by
 delta nr;induction co p 2 with
 |true=>exact Tm _
 |false=>exact iw l p
theorem Ie{g:Nat->Nat}{l:List Nat}:∀{c},x∈l.foldl (λc q=>nr (g q) c) c↔x∈c\/x∈(l.map g).filter λp=>!co p 2:=by
 induction l with
 |nil=>exact@λc=>⟨.inl,λh=>h.elim id λh=>nomatch h⟩
 |cons q l b=>
  intro c;rw[cO,b,Ig,or_assoc,xL,aX];refine or_congr AD ?_;induction e:co (g q) 2 with
  |true=>exact⟨λh=>h.elim (λh=>ff h.2.symm) id,.inr⟩
  |false=>exact⟨λh=>h.elim (λh=>h.1▸.head _)<|.tail _,λh=>(rc.mp h).imp (λe=>⟨e,rfl⟩) id⟩
theorem E6{l:List Nat}:∀{c},x∈l.foldl (λc a=>(af b).foldl (λc q=>nr (qN a q) c) c) c↔x∈c\/x∈(l.flatMap λa=>(af b).map<|qN a).filter λp=>!co p 2:=by
 induction l with
 |nil=>exact@λc=>⟨.inl,λh=>h.elim id λh=>nomatch h⟩
 |cons a l d=>intro c;rw[cO,d,Ie,or_assoc,dH,List.filter_append,TD]
theorem Mk{l l':List Nat}(h:∀x,x∈l↔x∈l'):orM (l.map f)=orM (l'.map f):=Em λi=>by
 delta orM;rw[jG,jG,uI];refine FM.trans<|Iff.trans ?_ FM.symm
 refine or_congr AD ?_;rw[P3,P3];exact⟨λ⟨y,c,e⟩=>(to.mp c).elim λx b=>⟨y,to.mpr ⟨x,(h x).mp b.1,b.2⟩,e⟩,λ⟨y,c,e⟩=>(to.mp c).elim λx b=>⟨y,to.mpr ⟨x,(h x).mpr b.1,b.2⟩,e⟩⟩
def KQ(g:List GO)(c b e d:Nat)(f:Bool)(ks:List Nat)(o7 o8 o9:Option RV):St:=⟨[some<|ak 0,some<|ae (c:Int),some<|ae (b:Int),some<|.md none (iv ks)<|ones ks,some<|dQ<|iv<|af e,some<|dQ<|iv<|af d,some<|dj f,o7,o8,o9],g⟩
noncomputable def on(o:Option Nat):Option RV:=o.map λ(p:Nat)=>ae p
noncomputable def ni(p:Nat):Option RV:=some<|ae p
variable{t1 t2 m1 m2:Nat} {cr:Bool} {ks:List Nat} {o8 o9:Option RV}
theorem PU(g)(t1 t2 m1 m2)(cr)(ks)(o7 o8 o9)(d:ks.length<=64):Ok (λf=>f.b (.and [(.v 6),(.cmp .Gt (.bi .len<|.v 3)<|.c<|.int 200)])<|KQ g t1 t2 m1 m2 cr ks o7 o8 o9) (false,KQ g t1 t2 m1 m2 cr ks o7 o8 o9):=by
 have e:aS g .Gt (ae ((iv ks).length:Nat)) (ae 200)=some false:=congrArg some (decide_eq_false λh=>by rw[aJ]at h;exact absurd (aV.mp h) (iF.mpr (am d (by decide))))
 induction cr with
 |true=>exact kb 5 [od,od,ob e]
 |false=>exact kb 5 [od]
theorem R4(g)(t1 t2 m1 m2)(cr)(ks)(o7 o8)(p)(b:ks.length<64):Ok (λf=>cH f (.asg (.sub (.v 3)<|.v 9) bJ)<|KQ g t1 t2 m1 m2 cr ks o7 o8<|ni p) (.dK,KQ g t1 t2 m1 m2 cr (fp ks p) o7 o8<|ni p):=Ok.of 2 λn=>qF N8 (Ml rfl) (Qs rfl) rfl rfl rfl (by
  show(decide ((iv ks).length<az)&&((true&&(iv ks).all DG)||(false&&(iv ks).all I3)))=true
  rw[pI,aJ,decide_eq_true (Ev b (by decide))];rfl) (by
  show some (St.put _ 3<|some<|.md none (upd (iv ks) (ones ks) (.int (p:Int))<|.int 1).1 (upd (iv ks) (ones ks) (.int (p:Int))<|.int 1).2)=_
  rw[AK];rfl)
theorem MM(h:Tb R)(g:a∈AN)(d:q∈AN)(f:ks.length<64):oF (.v 8) [.asg (.v 9)<|.call 44 [(.v 0),(.v 7),(.v 8)],.aN (.cmp .NotEq (.v 9) gM) [.asg (.sub (.v 3)<|.v 9) bJ] [],.aN (.and [(.v 6),(.cmp .Gt (.bi .len<|.v 3)<|.c<|.int 200)]) [.bad] []] (.int (q:Int)) (KQ (G R L) t1 t2 m1 m2 cr ks (ni a) o8 o9) (KQ (G R L) t1 t2 m1 m2 cr (nr (qN a q) ks) (ni a) (ni q)<|ni<|qN a q):=by
 have lk:=am (tS (p:=qN a q) (l:=ks)) f;unfold nr at lk⊢;have b:aS (G R L) .NotEq (ae (qN a q:Nat)) (ae (2:Nat))=some (!co (qN a q) 2):=xH (congrArg (!·) ((cX _ _).trans (by
  induction e:co (qN a q) 2 with
  |true=>exact decide_eq_true<|ii e
  |false=>exact decide_eq_false (bG e))))
 induction e:co (qN a q) 2 with
 |true=>rw[e]at b lk;exact kt 20 [oc<|WU (L:=L) h g d,ob b,ot<|PU (G R L) t1 t2 m1 m2 cr ks (ni a) (ni q) (ni<|qN a q) lk]
 |false=>rw[e]at b lk;exact kt 20 [oc<|WU (L:=L) h g d,ob b,os<|R4 (G R L) t1 t2 m1 m2 cr ks (ni a) (ni q) (qN a q) f,ot<|PU (G R L) t1 t2 m1 m2 cr (fp ks<|qN a q) (ni a) (ni q) (ni<|qN a q) lk]
theorem V6(k:Tb R)(j:a∈AN){qs}:∀{ks o8 o9},(∀q∈qs,q∈AN)->ks.length+qs.length<=63->∃d b,Ok (λf=>bb (forTurn f (.v 8) [.asg (.v 9)<|.call 44 [(.v 0),(.v 7),(.v 8)],.aN (.cmp .NotEq (.v 9) gM) [.asg (.sub (.v 3)<|.v 9) bJ] [],.aN (.and [(.v 6),(.cmp .Gt (.bi .len<|.v 3)<|.c<|.int 200)]) [.bad] []]) (iv qs)<|KQ (G R L) t1 t2 m1 m2 cr ks (ni a) o8 o9) (none,KQ (G R L) t1 t2 m1 m2 cr (qs.foldl (λc q=>nr (qN a q) c) ks) (ni a) d b):=by
 induction qs with
 |nil=>exact@λks o8 o9 _ _=>⟨o8,o9,cT⟩
 |cons q qs i=>
  intro ks o8 o9 h g;refine jF (i (ks:=nr (qN a q) ks) (o8:=ni q) (o9:=ni<|qN a q) (λq m=>h q<|.tail _ m)<|am (lf tS _)<|am (EQ (AT ..)) g) λd b e=>?_
  exact⟨d,b,aQ (MM k j (h q<|.head _)<|bh (ac (pp _ qs.length)<|Ix _)<|am g (ut ..)) e⟩
theorem R6(s:Tb R)(t:∀q∈af m2,q∈AN){as}:∀{ks o7 o8 o9},(∀q∈as,q∈AN)->ks.length+as.length*(af m2).length<=63->∃g d b,Ok (λf=>bb (forTurn f (.v 7)<|lb f45 5) (iv as)<|KQ (G R L) t1 t2 m1 m2 cr ks o7 o8 o9) (none,KQ (G R L) t1 t2 m1 m2 cr (as.foldl (λc a=>(af m2).foldl (λc q=>nr (qN a q) c) c) ks) g d b)/\(as.foldl (λc a=>(af m2).foldl (λc q=>nr (qN a q) c) c) ks).length<=63:=by
 induction as with
 |nil=>exact@λks o7 o8 o9 _ i=>⟨o7,o8,o9,cT,am (pp _ _) i⟩
 |cons a as j=>
  intro ks o7 o8 o9 h i;refine sA λC o=>?_;have i:ks.length+(as.length+1)*(af m2).length<=63:=i;rw[UN,wp<|as.length*_,<-wn]at i
  have u:∀(l ks:List Nat),(l.foldl (λc q=>nr (qN a q) c) ks).length<=ks.length+l.length:=λl=>by
   induction l with
   |nil=>exact λ_=>v6 _
   |cons q l j=>exact λks=>am (j _)<|am (lf tS _)<|EQ (AT ..)
  refine jF (V6 (L:=L) (t1:=t1) (t2:=t2) (m1:=m1) (m2:=m2) (cr:=cr) s (h a<|.head _) (qs:=af m2) (ks:=ks) (o8:=o8) (o9:=o9) t<|am (pp _ _) i) λn k e=>?_
  refine xY (j (ks:=(af m2).foldl (λc q=>nr (qN a q) c) ks) (o7:=ni a) (o8:=n) (o9:=k) (λq m=>h q<|.tail _ m)<|am (lf (u _ _) _) i) λg d b w r=>?_
  refine o ?_;exact⟨g,d,b,aQ (kt 20 [ol<|cz (src:=.l _) e]) w,r⟩
end
section
variable{m t1 t2 m1 m2:Nat}
def Kp(m:Nat):Prop:=∀q∈af m,q∈AN
def crB(m1 m2:Nat):Bool:=decide ((1:Int)<((iv<|af m1).length:Nat))&&decide ((1:Int)<((iv<|af m2).length:Nat))
def mt0(g:List GO)(t1 t2 m1 m2:Nat):St:=⟨[some<|ak 0,some<|ae (t1:Int),some<|ae (t2:Int),some<|.md none [] [],some<|dQ<|iv<|af m1,some<|dQ<|iv<|af m2,none,none,none,none],g⟩
theorem R8(g)(t1 t2 m1 m2):Ok (λf=>f.e (.and [(.cmp .Gt (.bi .len<|.v 4) bJ),(.cmp .Gt (.bi .len<|.v 5) bJ)])<|mt0 g t1 t2 m1 m2) (dj<|crB m1 m2,mt0 g t1 t2 m1 m2):=ow (ke 5 []) (ke 5 [])
theorem Ih(l:Kp m1)(k:Kp m2):Af (meets m1 m2):=λp g=>by
 obtain⟨h,d⟩:=Re.mp g;refine aO (aW.mp h) λa j h=>?_;refine aO (to.mp h) λb i c=>?_;subst c;have:=bv.mp (bv.mp MN a<|l a j) b<|k b i
 rw[bN d,Os]at this;refine aO (P3.mp this) λx f e=>?_;exact⟨x.2,ii e▸f⟩
theorem Z8(j:Tb R)(o:KM R m1 t1)(u:KM R m2 t2)(w:af m1=[1]\/Kp m1)(v:af m2=[1]\/Kp m2)(C:(af m1).length*(af m2).length<=63)(D:R.length<az):mG 45 [ak 0,ae (t1:Int),ae (t2:Int)] [none,none,none] R L 1 (tH m1 m2):=by
 have b:aS (G R L) .Eq (ae (t1:Int)) (ae (t2:Int))=some (decide<|af m1=af m2):=ao<|(cX t1 t2).trans<|o.dec j u
 have f:aS (G R L) .Eq (ae (t2:Int)) (ae 1)=some (decide<|af m2=[1]):=ao<|(cX t2 1).trans<|u.is j 1 (by decide) (by decide) (by decide)
 have i:aS (G R L) .Eq (ae (t1:Int)) (ae 1)=some (decide<|af m1=[1]):=ao<|(cX t1 1).trans<|o.is j 1 (by decide) (by decide) (by decide)
 delta tH;induction r:decide (af m1=af m2)with
 |true=>replace b:=r▸b;exact⟨t1,R,kf 20 [ob b],.refl,o⟩
 |false=>
 replace b:=r▸b;induction k:decide (af m2=[1])with
 |true=>rw[k]at f;exact⟨t1,R,kf 20 [ob b,ob f],.refl,o⟩
 |false=>
 rw[k]at f;induction n:decide (af m1=[1])with
 |true=>rw[n]at i;exact⟨t2,R,kf 20 [ob b,ob f,ob i],.refl,u⟩
 |false=>
 rw[n]at i;have w:=w.resolve_left<|of_decide_eq_false n
 have v:=v.resolve_left<|of_decide_eq_false k
 refine xY (R6 (L:=L) (t1:=t1) (t2:=t2) (m1:=m1) (cr:=crB m1 m2) j v (as:=af m1) (ks:=[]) (o7:=none) (o8:=none) (o9:=none) w (by rw[tz,ss];exact C)) λo7 o8 o9 e d=>?_
 have s:∀x,x∈(af m1).foldl (λc a=>(af m2).foldl (λc q=>nr (qN a q) c) c) []↔x∈meets m1 m2:=λx=>E6.trans (by delta meets;exact⟨λh=>h.elim (λh=>nomatch h) id,.inr⟩)
 revert s d e;generalize(af m1).foldl (λc a=>(af m2).foldl (λc q=>nr (qN a q) c) c) []=ks;intro e d s;have d:=gY d;have y:Af (gf ks):=λp A=>Ih w v p<|(s p).mp<|d7.mp A
 obtain⟨x,S,E,g,z⟩:=l9 j (L:=L) (bq.lst<|iv<|gf ks) y (by rw[eF];exact d) D
 rw[Mk (l':=meets m1 m2) λx=>d7.trans<|s x]at z
 exact⟨x,S,kf 20 [ob b,ob f,ob i,oc<|fQ (L:=L) j o,oc<|fQ (L:=L) j u,ox<|R8 (G R L) t1 t2 m1 m2,ol<|cz (src:=.l _) e,ov<|qC (g:=G R L) (t:=none) d,oc E],g,z⟩
end
def MT:List Nat:=TK.filter λk=>!co k 2048
theorem R9:(MT.all λm=>(decide (af m=[1])||(af m).all λq=>AN.contains q)&&MT.all λk=>MT.contains (tH m k)&&bx ((af m).length*(af k).length) 63)=true:=by decide+kernel
theorem Q8:(TK.all λa=>TK.all λb=>!decide (af a=af b)||co a b)=true:=by decide+kernel
noncomputable def Bl:List Nat->Nat->List Nat->Nat
 |_,m,[]=>m
 |done,m,k::ks=>Bl (done++[k]) (bif done.contains k then m else tH m k) ks
def MP(ks:List Nat):Nat:=bif ks.contains 0 then 0 else bif ks.contains 2048 then 2048 else Bl [] 4096 ks
section
variable{m k q:Nat} {ks:List Nat}
theorem xi(h:g[n]?=some (.list<|iv a)):aS g .In (ae q) (ak n)=some (decide<|q∈a):=by
 rw[<-t4 (g:=g)];show inR g (.int q) (ak n)=inR g (.int q) (dQ<|iv a)
 delta inR;refine(show cA g (ak n)=some (iv a) from bI h rfl)▸?_;rfl
theorem j6:aS g .NotIn (ae q) (.ml o<|iv qs)=some (!decide (q∈qs)):=by
 have:aS g .In (ae q) (dQ<|iv qs)=_:=t4
 exact mI (show inR g (.int (q:Int)) (.ml o<|iv qs)=_ from this) rfl
theorem w5(j:Tb R)(l:KM R a d)(i:∀k∈TK,af k=af a->k=a)(h:oL R b ks):(∀k∈ks,k∈TK)->decide (d∈b)=ks.contains a:=by
 induction h with
 |nil=>exact λ_=>rfl
 | @cons q k b ks g _ f=>
  intro c;rw[List.contains_cons,<-f λk m=>c k<|.tail _ m]
  have e:=(decide_eq_decide.mp<|l.dec j g).trans ⟨λe=>beq_iff_eq.mpr (i k (c k<|.head _) e.symm).symm,λe=>beq_iff_eq.mp e▸rfl⟩
  rw[<-Bool.decide_coe (a==k),<-bU];exact decide_eq_decide.mpr<|rc.trans<|or_congr e AD
theorem wA(a:m∈TK):∀k∈TK,af k=af m->k=m:=λk b e=>by have:=bv.mp (bv.mp Q8 k b) m a;rw[decide_eq_true e,cS,Os]at this;exact ii this
theorem Wy:KM R 0 2:=by delta KM;rw[show af 0=[] by decide];rfl
theorem Bq:KM R 2048 0:=by delta KM;rw[show af 2048=[0] by decide];rfl
theorem IE:KM R 4096 1:=by delta KM;rw[show af 4096=[1] by decide];rfl
theorem ZO(d:Tb R)(h:oL R a ks):13∉a:=by
 induction h with
 |nil=>exact λh=>nomatch h
 |cons c _ b=>exact λh=>(rc.mp h).elim (λe=>c.RN d e.symm) b
noncomputable def BH(g:List GO)(n:Nat)(c b a:Option RV):St:=⟨[some<|ak 0,some<|ak n,c,b,a],g⟩
theorem DI{g:List GO}{n:Nat}(h:g[n]?=some (.list<|iv a))(b:decide (q∈a)=false):oF (.v 2) (lb Qq 0) (.int (q:Int)) (BH g n o none none) (BH g n (ni q) none none):=kt 10 [ob<|(xi h).trans<|congrArg some b]
theorem Qh{g:List GO}{n:Nat}(h:g[n]?=some (.list<|iv a))(b:decide (q∈a)=true):Ok (λf=>forTurn f (.v 2) (lb Qq 0) (.int (q:Int))<|BH g n o none none) (some<|.ret<|ae q,BH g n (ni q) none none):=Sv 10 [ob<|(xi h).trans<|congrArg some b]
end
section
variable{R:List PV} {L:List GO} {t m k:Nat} {qs ks:List Nat}
theorem dt{n:Nat}:srcOf g (.v<|.iH (n:Int))=some (.l<|iv<|Db n):=by
 show(if - 2^20<=(n:Int)then some (Src.l<|(Db (n:Int).toNat).map λ(k:Nat)=>.int (k:Int))else none)=_
 rw[if_pos<|rL (by decide:(- 2^20:Int)<=0)<|Do n,fh];rfl
theorem ZW{n:Nat}(h:n<=10):(n:Int)<2^20:=jO (jx.mpr h) (by decide:((10:Nat):Int)<2^20)
theorem fH{n:Nat}(h:n<=10):uK g .range (ae n)=some (.v<|.iH (n:Int)):=by delta uK;exact bI rfl<|if_pos<|ZW h
theorem Du(h:g[n]?=some (.list l)):uK g .len (ak n)=some (ae (l.length:Nat)):=by
 show(match cA g (ak n)with|some l=>some l|none=>(mapR g<|ak n).map Pv).map _=_
 exact(show cA g (ak n)=some l from bI h rfl)▸rfl
theorem oW{p:Nat}(h:g[n]?=some (.list l))(a:l[p]?=some x):gy g (ak n) (.int (p:Int))=some x:=by delta gy;refine(show cA g (ak n)=some l from bI h rfl)▸?_;exact bI rfl<|bI (fU a) a
theorem Hr{l:List PV}(h:g[n]?=some (.list l))(a:p<=l.length):ya g (ak n) none (some<|.int (p:Int))=some (.ml none<|l.take p):=bI (show cA g (ak n)=some l from bI h rfl) (bI (x:=0) rfl<|mI (mI (x:=(p:Int)) rfl<|(eg _ _).trans<|dG a) rfl)
inductive Zk(R:List PV)(N F:Nat)(qs ks r:List Nat)(S:List PV)(t:Nat):Prop
 |mk (c m:Nat) (b e a d:List Nat) (h:r=IN b.length a.length) (q:qs=b++a) (g:dU R c S) (o:c+a.length=N) (n:oL S b e) (p:oL S a d) (j:KM S m t) (i:m∈MT) (td:∀k∈e,k∈MT) (f:∀k∈d,k∈MT) (l:Bl e m d=F):Zk R N F qs ks r S t
theorem Ia(h:k∈MT):k∈TK:=(Re.mp h).1
theorem Dl(f:m∈MT)(g:k∈MT):(af m=[1]\/Kp m)/\tH m k∈MT/\(af m).length*(af k).length<=63:=aE (bv.mp R9 m f) λa b=>⟨(FM.mp a).imp of_decide_eq_true λh q e=>wf.mp<|bv.mp h q e,aE (bv.mp b k g) λc d=>⟨wf.mp c,io d⟩⟩
theorem Xb{c l N R C}(h:c+(l+1)=N)(a:R+N<C):c+1+l=N/\R+c<C:=⟨(AT ..).trans h,ac (db (h▸pp c (l+1)) R) a⟩
theorem NJ(hT:Tb R){N F j:Nat}(hl:R.length+N<az)(V:L[j]?=some (.list<|iv qs))(p r S t o)(h:Zk R N F qs ks (p::r) S t):T6 (λS t o=>BH (G S L) (j+12) (ni 13) (ni t)<|on o) (Zk R N F qs ks r) (.v 4) (lb Qq 2) p (BH (G S L) (j+12) (ni 13) (ni t)<|on o):=by
 obtain⟨c,m,b,s,u,C,T,H,g,hc,P,E,U,O,y,I,hf⟩:=h;induction E with
 |nil=>cases T
 | @cons q k u C D E=>
  cases T;have a:=Xb hc hl;have W:=g.tb hT;have i:=I _<|.head _
  have Y:=aJ qs;have hp:b.length<=qs.length:=by rw[H,ch];exact pp _ _
  have Z:(iv qs)[b.length]?=some (.int (q:Int)):=by delta iv;rw[H1,H,Fk<|v6 _,gX];rfl
  have X:(iv qs).take b.length=iv b:=by delta iv;rw[<-kG,H,vc]
  have M:=oW (g:=G S L) (n:=j+12) V Z;have J:=Hr (g:=G S L) (n:=j+12) (p:=b.length) V<|Y▸hp
  rw[X]at J;have d:aS (G S L) .NotIn (ae q) (.ml none<|iv b)=some (!s.contains k):=j6.trans (by rw[w5 W D (wA<|Ia i) P λk h=>Ia<|y k h])
  have w:∀x∈s++[k],x∈MT:=λx hx=>(TD.mp hx).elim (y x) λh=>(wP.mp h)▸i;have z:IN (b.length+1) u.length=IN (b++[q]).length u.length:=by rw[ch];rfl
  have A:qs=(b++[q])++u:=by rw[H,sK];rfl
  have l:Bl (s++[k]) (bif s.contains k then m else tH m k) C=F:=hf;induction e:s.contains k with
  |true=>rw[e]at d l;exact⟨S,t,kt 20 [op M,ov J,ob d],c+1,m,b++[q],s++[k],u,C,z,A,g.up (Tm _),a.1,P.snoc D,E,U,O,w,λx h=>I x (.tail _ h),l⟩
  |false=>
   rw[e]at d l;have f:=Dl O i;obtain⟨x,S',e1,Q,h'⟩:=Z8 (L:=L) W U D f.1 (Dl i O).1 f.2.2<|ac g.len a.2
   exact⟨S',x,kt 20 [op M,ov J,ob d,op M,oc e1],c+1,tH m k,b++[q],s++[k],u,C,z,A,g.trans Q,a.1,Q.Nq (P.snoc D),Q.Nq E,h',f.2.1,w,λx h=>I x (.tail _ h),l⟩
theorem Nz(s:Tb R)(a:L[j]?=some (.list<|iv qs))(i:oL R qs ks)(x:∀k∈ks,k∈TK)(y:qs.length<=3)(H:R.length+3<az):mG 46 [ak 0,ak<|j+12] [none,none] R L 3 (MP ks):=by
 have u:=w5 s Wy (wA (by decide:0∈TK)) i x
 have C:=w5 s Bq (wA (by decide:2048∈TK)) i x
 have w:=decide_eq_false<|ZO s i
 delta MP;induction A:ks.contains 0 with
 |true=>
  have d:Kl (.v 2) (lb Qq 0) (.l<|iv [2,0,13]) (BH (G R L) (j+12) none none none) (.ret<|ae 2) (BH (G R L) (j+12) (ni 2) none none):=Ok.map (kU<|Qh a<|u.trans A) λ_=>rfl
  exact⟨2,R,kf 20 [ol d],.refl,Wy⟩
 |false=>
 induction e0:ks.contains 2048 with
 |true=>
  have d:Kl (.v 2) (lb Qq 0) (.l<|iv [2,0,13]) (BH (G R L) (j+12) none none none) (.ret<|ae 0) (BH (G R L) (j+12) (ni 0) none none):=Ok.map (aQ (DI a<|u.trans A)<|kU<|Qh a<|C.trans e0) λ_=>rfl
  exact⟨0,R,kf 20 [ol d],.refl,Bq⟩
 |false=>
  have d:Kl (.v 2) (lb Qq 0) (.l<|iv [2,0,13]) (BH (G R L) (j+12) none none none) .dK (BH (G R L) (j+12) (ni 13) none none):=cz (src:=.l<|iv [2,0,13])<|aQ (DI a<|u.trans A)<|aQ (DI a<|C.trans e0)<|aQ (DI a w) cT
  obtain⟨S,t,o,e,c,m,Q,U,P,T,F,X,g,N,W,z,I,V,D,O,M⟩:=Il (t:=.v 4) (b:=lb Qq 2) (S:=λS t o=>BH (G S L) (j+12) (ni 13) (ni t)<|on o) (J:=Zk R qs.length (Bl [] 4096 ks) qs ks) (λp r S t o h=>NJ s (ac (db y _) H) a p r S t o h) (qs:=Db qs.length) (R:=R) (c:=1) (o:=none) ⟨0,4096,[],[],qs,ks,WP,rfl,.refl,ss _,.nil,i,IE,by decide,(λ_ h=>nomatch h),λk h=>Re.mpr ⟨x k h,by
    induction q:co k 2048 with
    |false=>rfl
    |true=>rw[ii q]at h;rw[wf.mpr h]at e0;exact ff e0.symm⟩,rfl⟩
  induction z with
  |cons=>cases F
  |nil=>
   refine qE M ?_;subst N;have E:Ok (λf=>f.e (.bi .range<|.bi .len<|.v 1)<|BH (G R L) (j+12) (ni 13) (ni 1) none) (.v<|.iH (qs.length:Int),BH (G R L) (j+12) (ni 13) (ni 1) none):=ke 5 [ov<|(Du (g:=G R L) (n:=j+12) a).trans (by rw[aJ]),ov<|fH (g:=G R L)<|am y (by decide)]
   exact⟨t,S,kf 20 [ol d,os<|ka E dt<|cz (src:=.l _) e],g.up y,I⟩
end
theorem Jr:(dW.all λa=>[true,false].all λx=>[true,false].all λy=>[true,false].all λp=>[true,false].all λq=>[true,false].all λu=>[true,false].all λv=>(((x&&((mT p).testBit a.2&&(mF u).testBit a.2))||y)&&((mT<|(p&&((mT p).testBit 2&&(mF u).testBit 2))||q).testBit a.2&&(mF<|(u&&((mT p).testBit 5&&(mF u).testBit 5))||v).testBit a.2))==((x||y)&&((mT (p||q)).testBit a.2&&(mF (u||v)).testBit a.2)))=true:=by decide+kernel
theorem wa(h:[true,false].all P=true)(b):P b=true:=bv.mp h b (by induction b<;>decide)
theorem NM(h:∀a∈dW,m.testBit a.2=d.testBit a.2):af m=af d:=(kc m).ext (kc d) λq=>d8.trans<|Iff.trans ⟨λ⟨b,c,k⟩=>⟨b,c,(h _ c).symm.trans k⟩,λ⟨b,c,k⟩=>⟨b,c,(h _ c).trans k⟩⟩ d8.symm
theorem jj(h:M.testBit 11=true):au M=2048:=if_pos h
theorem mq(a:M.testBit 11=false)(h:M.testBit 12=true):au M=4096:=by delta au;rw[a,h];rfl
theorem DQ(a b):af (au<|au a|||b)=af (au<|a|||b):=by
 induction d:a.testBit 11 with
 |true=>rw[jj d,jj (M:=2048|||b) (by rw[Gc];rfl),jj (M:=a|||b) (by rw[Gc,d];rfl)]
 |false=>
 induction e:a.testBit 12 with
 |true=>
  rw[mq d e];induction c:b.testBit 11 with
  |true=>rw[jj (M:=4096|||b) (by rw[Gc,c];rfl),jj (M:=a|||b) (by rw[Gc,c,jt])]
  |false=>rw[mq (M:=4096|||b) (by rw[Gc,c];rfl) (by rw[Gc];rfl),mq (M:=a|||b) (by rw[Gc,d,c];rfl) (by rw[Gc,e];rfl)]
 |false=>
 have g:=mX d e;have h:(au a).testBit 11=false:=by rw[g,d];rfl
 have i:(au a).testBit 12=false:=by rw[g,e];rfl
 induction c:b.testBit 11 with
 |true=>rw[jj (M:=au a|||b) (by rw[Gc,c,jt]),jj (M:=a|||b) (by rw[Gc,c,jt])]
 |false=>
 induction f:b.testBit 12 with
 |true=>rw[mq (M:=au a|||b) (by rw[Gc,c,h];rfl) (by rw[Gc,f,jt]),mq (M:=a|||b) (by rw[Gc,d,c];rfl) (by rw[Gc,f,jt])]
 |false=>
  refine NM λx j=>?_;rw[mX (M:=au a|||b) (by rw[Gc,c,h];rfl) (by rw[Gc,f,i];rfl),mX (M:=a|||b) (by rw[Gc,d,c];rfl) (by rw[Gc,e,f];rfl),Gc,Gc,Gc,Gc,Gc,Gc,g,g,g]
  exact eq_of_beq<|wa (wa (wa (wa (wa (wa (bv.mp Jr x j) _) _) _) _) _) _
theorem Fy(a):∀(b),af (au<|b|||orM (a.map au))=af (au<|b|||orM a):=by
 induction a with
 |nil=>exact@λ_=>rfl
 |cons x a c=>intro b;rw[xL,cw,cw,<-cg,c,nS b,cg,DQ,<-cg,nS x,cg]
theorem DP:af (au<|orM<|a.map au)=af (au<|orM a):=by have:=Fy a 0;rwa [eP,eP]at this
def zx(c:Nat):List Nat:=bif co c 8192 then[16]else bif co c 8193 then[21]else af c
def KX(R:List PV)(c t:Nat):Prop:=bz R (zx c) t
theorem BI(h:c<8192):zx c=af c:=by delta zx;rw[show co c 8192=false from Uf.mpr λe=>absurd (ii e)<|bF h,show co c 8193=false from Uf.mpr λe=>absurd (ii e)<|bF<|kF h];rfl
theorem KM.x (h:KM R m t) (q:m<8192):KX R m t:=by delta KX;exact(BI q)▸h
theorem P9(d:Tb R)(h:KM R m t)(c:R.length<az):mG 17 [ak 0,ae t] [none,none] R L 1 (au<|orM [m,512]):=by
 have b:KM R 512 4:=by delta KM;rw[show af 512=[4] by decide];rfl
 obtain⟨x,S,e,g,a⟩:=jI d (L:=L) (bq.tup<|iv [t,4]) (.cons h<|.cons b .nil) (ac (mr [_,_]) (by decide:13*2<64)) c
 exact⟨x,S,kf 20 [oc e],g,a⟩
section
variable{m k n:Nat}
theorem O0(m k:Nat):jX (m:Int) (k:Int)=((m&&&k:Nat):Int):=by delta jX;refine(decide_eq_true<|Do m)▸(decide_eq_true<|Do k)▸?_;rfl
theorem wZ(m:Nat):bM (m:Int)=uE m:=by delta bM;omega
theorem not_neg(m):bM (uE m)=(m:Int):=by delta bM;omega
theorem HP(m k:Nat):kM (m:Int) (k:Int)=((m|||k:Nat):Int):=by
 delta kM;rw[wZ,wZ];show bM (bM ((bM<|uE m).toNat|||(bM<|uE k).toNat:Nat))=_
 rw[not_neg,not_neg,fh,fh,wZ,not_neg]
theorem jd:hK g .BitAnd (ae m) (ae k)=some (ae ((m&&&k:Nat):Int)):=(mI (congrArg some<|O0 m k) rfl:(binI .BitAnd (m:Int) (k:Int)).map (λk=>RV.v<|.int k)=_)
theorem H':hK g .BitOr (ae m) (ae k)=some (ae ((m|||k:Nat):Int)):=(mI (congrArg some<|HP m k) rfl:(binI .BitOr (m:Int) (k:Int)).map (λk=>RV.v<|.int k)=_)
theorem BJ:binI .BitOr (m:Int) (k:Int)=some ((m|||k:Nat):Int):=congrArg some<|HP m k
theorem Qj(h:k<=m):binI .Sub (m:Int) (k:Int)=some ((m - k:Nat):Int):=congrArg some (Int.ofNat_sub h).symm
theorem CC:cF g (ae n)=some (!co n 0):=congrArg some (by
 induction n with
 |zero=>rfl
 |succ n=>exact decide_eq_true (λh=>nomatch h))
noncomputable def Q1(P:Nat->Bool):Nat->Bool
 |0=>true
 |n+1=>P n&&Q1 P n
theorem Cr:∀{n m},Q1 P n=true->m<n->P m=true
 |n+1,m,h,a=>aE h λc b=>(Nat.lt_succ_iff_lt_or_eq.mp a).elim (Cr b) λe=>e▸c
noncomputable def JG(m a b:Nat):Nat:=bif co (m&&&a) 0 then m else m -(m&&&b)
def DR(m:Nat):Nat:=bif co (m&&&2048) 0 then bif co (m&&&4096) 0 then JG (JG m 4 3) 32 24 else 4096 else 2048
theorem Fz:Q1 (λm=>co (DR m)<|au m) 8192=true:=by decide+kernel
theorem Jt(h:m<8192):DR m=au m:=ii<|Cr (P:=λm=>co (DR m)<|au m) Fz h
theorem oU(e:co (m&&&k) 0=b):cF g (ae ((m&&&k:Nat):Int))=some (!b):=e▸CC
theorem Qe{a b:Nat}:Ok (λf=>cH f (.aN (.bin .BitAnd (.v 0)<|.c<|.int a) [.aug 0 .Sub<|.bin .BitAnd (.v 0)<|.c<|.int b] []) ⟨[some<|ae m],g⟩) (.dK,⟨[some<|ae (JG m a b:Nat)],g⟩):=by
 delta JG;induction e:co (m&&&a) 0 with
 |true=>exact ks 9 [ov<|jd (g:=g) (m:=m) (k:=a),ob<|oU (g:=g) e]
 |false=>exact ks 9 [ov<|jd (g:=g) (m:=m) (k:=a),ob<|oU (g:=g) e,ov<|jd (g:=g) (m:=m) (k:=b),oi<|Qj (m:=m) (k:=m&&&b) Pe]
theorem qT(g)(h:m<8192):ai 65 [ae m] g (ae (au m:Nat)) [none] g:=by
 refine(Jt h)▸?_;delta DR;induction c:co (m&&&2048) 0 with
 |false=>exact kf 20 [ov<|jd (g:=g) (m:=m) (k:=2048),ob<|oU (g:=g) c]
 |true=>
 induction d:co (m&&&4096) 0 with
 |false=>exact kf 20 [ov<|jd (g:=g) (m:=m) (k:=2048),ob<|oU (g:=g) c,ov<|jd (g:=g) (m:=m) (k:=4096),ob<|oU (g:=g) d]
 |true=>exact kf 20 [ov<|jd (g:=g) (m:=m) (k:=2048),ob<|oU (g:=g) c,ov<|jd (g:=g) (m:=m) (k:=4096),ob<|oU (g:=g) d,o7<|Qe (g:=g) (m:=m) (a:=4) (b:=3),o7<|Qe (g:=g) (m:=JG m 4 3) (a:=32) (b:=24)]
end
def bK(l:List Nat):List Nat:=(gf l).foldl fp []
abbrev uA(l:List Nat):Prop:=l.Pairwise (· <= ·)
theorem RQ:uA l->uA (tZ x l):=by
 induction l with
 |nil=>exact@λ_=>Tk.mpr ⟨(λ_ h=>nomatch h),.nil⟩
 |cons y l c=>
  intro h;obtain⟨b,d⟩:=Tk.mp h;show uA (if x<=y then x::y::l else y::tZ x l)
  by_cases q:x<=y
  .rw[if_pos q];exact Tk.mpr ⟨λz a=>(rc.mp a).elim (λe=>e▸q) λa=>am q<|b z a,h⟩
  .rw[if_neg q];exact Tk.mpr ⟨λz a=>(tI.mp a).elim (λe=>e▸Nat.le_of_not_le q)<|b z,c d⟩
theorem MH(l):uA (gf l):=by
 induction l with
 |nil=>exact .nil
 |cons _ l a=>exact RQ<|a
theorem I8:∀{d},uA l->we d->(∀a∈d,∀b∈l,a<=b)->we (l.foldl fp d):=by
 induction l with
 |nil=>exact@λ_ _ h _=>h
 |cons x l i=>
  intro d j g f;obtain⟨m,k⟩:=Tk.mp j;refine i k ?_ λa h b c=>(pA.mp h).elim (λh=>f a h b<|.tail _ c) λe=>e▸m b c
  delta fp;by_cases q:x∈d
  .rw[if_pos q];exact g
  .rw[if_neg q];exact List.pairwise_append.mpr ⟨g,List.pairwise_singleton _ _,λa h b c=>qn (wP.mp c▸f a h x (.head _)) λe=>q<|wP.mp c▸e▸h⟩
theorem yr(l):we (bK l):=I8 (MH l) .nil λ_ h=>nomatch h
theorem eO:q∈bK l↔q∈l:=(lY (m:=gf l) (l:=[])).trans ⟨λh=>h.elim (λh=>nomatch h) d7.mp,λh=>.inr<|d7.mpr h⟩
theorem r6(a:we m)(h:∀q,q∈l↔q∈m):bK l=m:=(yr l).ext a λq=>eO.trans<|h q
inductive Kk(a:Nat)(d:List RV)(b:List (Option RV))(R:List PV)(L:List GO)(c:Nat)(l:List Nat):Prop
 |mk (t:Nat) (S:List PV) (e:ai a d (G R L) (ae t) b (G S L)) (g:dU R c S) (k:bz S l t):Kk a d b R L c l
noncomputable def Rm:Str:=⟨#[116,97,98]⟩
section
variable{ks vs:List PV}
theorem LZ(h:a.length<64):uK g .sorted (.v<|.lst<|iv a)=some (.ml none<|iv<|gf a):=by
 show(intsOf<|iv a).bind _=_
 rw[pL];show(if(a.map λ(n:Nat)=>(n:Int)).length<64 then _ else none)=_
 rw[if_pos (by rw[im];exact h),CU,bD];rfl
noncomputable def wm(ks vs:List PV):RV:=.md (some 0) ks vs
def We(g:List GO)(ks vs:List PV)(n:PV)(c:List Nat)(o:Option Nat):St:=⟨[some<|wm ks vs,some<|.v n,some<|.ml none<|iv c,on o],g⟩
theorem Na{q:Nat}(a:c.length<az):oF (.v 3) (lb f66 1) (.int (q:Int)) (We g ks vs n c o) (We g ks vs n (fp c q)<|some q):=by
 delta fp;by_cases h:q∈c
 .rw[if_pos h];exact kt 9 [ob<|(j6 (g:=g) (q:=q) (qs:=c) (o:=none)).trans<|congrArg (λb=>some<|!b)<|decide_eq_true h]
 .rw[if_neg h];exact kt 9 [ob<|(j6 (g:=g) (q:=q) (qs:=c) (o:=none)).trans<|congrArg (λb=>some<|!b)<|decide_eq_false h,om<|eU (s:=We g ks vs n c<|some q) (i:=2) (x:=.int (q:Int)) (out:=iv c) rfl (by rw[aJ];exact a) (s':=We g ks vs n (c++[q])<|some q) (by rw[gF];rfl)]
theorem Bw(p:∀g o,gy g (.md o ks vs) (.str Rm)=some (.aZ 0))(k:ns.length<64)(u:R.length<az):Kk 66 [wm ks vs,.v<|.lst<|iv ns] [some<|wm ks vs,none] R L 1 (bK ns):=by
 refine sA λC m=>?_;obtain⟨o,e,_⟩:=w8 (t:=.v 3) (b:=lb f66 1) (after:=We (G R L) ks vs<|.lst<|iv ns) (f:=fp) (P:=λr c=>c.length+r.length<64) (λq r c o h=>⟨Na<|ac (pp _ _)<|Ev h (by decide),ac (lf (iw c q) _)<|(AT c.length 1 r.length).symm▸h⟩) (qs:=gf ns) (c:=[]) (o:=none) (by rw[tz,ss,eF];exact k)
 have s:=LZ (g:=G R L) k;have d:=cz (src:=.l _) e;refine eV (qJ R<|bK ns) λX j w i=>?_
 refine m ?_;revert d j i;delta bK;generalize(gf ns).foldl fp []=l;intro d j i
 match l,d,j,i with
 |[],d,j,i=>exact⟨2,R,kf 20 [ov s,ol d,od,od],.refl,rfl⟩
 |[a],d,j,i=>exact⟨a,R,kf 20 [ov s,ol d,od,od],.refl,rfl⟩
 |a::b::l,d,j,i=>
  have n:aS (G R L) .Lt (ae ((iv<|a::b::l).length:Nat)) (ae 2)=some false:=congrArg some<|decide_eq_false λh=>absurd (aV.mp h)<|iF.mpr<|ut 2 _
  exact⟨_,_,kf 20 [ov s,ol d,od,ob n,op<|p (G R L)<|some 0,od,oc<|pD (L:=L) (mi<|a::b::l) u],j▸.mk X w,i⟩
end
noncomputable def PC:Str:=⟨#[111,112,101,110]⟩
noncomputable def CX:Str:=⟨#[109,101,109,98,101,114]⟩
noncomputable def Hz:Str:=⟨#[116,104,105,110,103]⟩
noncomputable def wN:Str:=⟨#[97,116,111,109,115]⟩
noncomputable def zZ:List Nat:=[17,18,6,19,20,7,8,9,5,4,3,0,1]
abbrev K3(ks a:List PV)(s:Str)(v:PV):Prop:=∀(g:List GO)(o:Option Nat),gy g (.md o ks a) (.str s)=some v
structure WD(ks vs:List PV):Prop where
 tab:K3 ks vs Rm (.aZ 0)
 yT:K3 ks vs PC (.int 16)
 atoms:K3 ks vs wN (.lst<|iv zZ)
 member:K3 ks vs CX (.int 21)
 Pu:K3 ks vs Hz (.int 22)
def nO(b:Nat):Nat:=zZ[b]?.getD 0
theorem Ka:(dW.all λa=>SL a.2 13&&co (nO a.2) a.1)=true:=by decide+kernel
theorem J':((Db 13).all λb=>dW.contains (nO b,b))=true:=by decide+kernel
noncomputable def cI(c:Nat):Int:=bif co c 8192 then -1 else bif co c 8193 then -2 else c
section
variable{ks:List PV} {m b c:Nat}
theorem L1(a:b<=64):binI .RShift (m:Int) (b:Int)=some ((m>>>b:Nat):Int):=by
 refine(if_pos ⟨Do b,jx.mpr a⟩).trans<|congrArg some ?_
 rw[fh,Nat.shiftRight_eq_div_pow,wt,Int.natCast_pow];rfl
theorem V2(a:b<=64):hK g .RShift (ae m) (ae b)=some (ae ((m>>>b:Nat):Int)):=(mI (L1 a) rfl:(binI .RShift (m:Int) (b:Int)).map (λk=>RV.v<|.int k)=_)
theorem Vr:cF g (ae ((m>>>b&&&1:Nat):Int))=some (m.testBit b):=CC.trans (congrArg some (by delta Nat.testBit;rw[Nat.and_comm];generalize 1&&&m>>>b=n;induction n<;>rfl))
theorem Qg(e:b<=64)(d:rs[i]?=some (some<|ae m))(a:rs[j]?=some (some<|ae b)):Ok (λf=>f.b (.bin .BitAnd (.bin .RShift (.v i)<|.v j) bJ) ⟨rs,g⟩) (m.testBit b,⟨rs,g⟩):=Ok.of 4 λn=>b_e rfl (Gk rfl<|uh (Gk rfl<|uh (Ml d) (Ml a) (eI d) (eI a)<|V2 e) (Gk rfl N8) rfl rfl<|jd (k:=1)) rfl Vr
theorem r9(h:l[b]?=some x):gy g (.v<|.lst l) (.int (b:Int))=some x:=bI (fU h) h
theorem M9(i:WD ks a):Ok (λf=>f.e (.comp (.sub (.sub (.v 0)<|.c<|.str wN)<|.v 2) [(.v 2,.bi .range oC,[.bin .BitAnd (.bin .RShift (.v 1)<|.v 2) bJ])]) ⟨[some<|wm ks a,some<|ae m,none],g⟩) (.ml none<|iv<|((Db 13).filter m.testBit).map nO,⟨[some<|wm ks a,some<|ae m,none],g⟩):=by
 obtain⟨y,h⟩:=xd (j:=2) (rs:=[some<|wm ks a,some<|ae m,none]) (g:=g) (qs:=Db 13) (out:=[]) (y:=none) (p:=m.testBit) (F:=λb=>.int<|nO b) (cs:=[.bin .BitAnd (.bin .RShift (.v 1)<|.v 2) bJ]) (elt:=.sub (.sub (.v 0)<|.c<|.str wN)<|.v 2) (by decide) (λq d=>jk<|Qg (ck<|Ev (bS.mp d) (by decide)) rfl rfl) (λq d _=>ke 5 [op<|i.atoms g<|some 0,op<|r9 (g:=g) (l:=iv zZ) (b:=q) (x:=.int<|nO q) ((by decide:∀q,q<13->zZ[q]?=some (nO q)) q (bS.mp d)|>λh=>by delta iv;exact H1.trans<|congrArg _ h)])
 have e:((Db 13).filter m.testBit).map (λb=>PV.int<|nO b)=iv (((Db 13).filter m.testBit).map nO):=by delta iv;rw[bD];rfl
 rw[GM,e]at h;exact fR (t:=.v 2) (x:=.v<|.iH (13:Nat)) (s:=⟨[some<|wm ks a,some<|ae m,none],g⟩) (s1:=⟨[some<|wm ks a,some<|ae m,none],g⟩) (src:=.l<|iv<|Db 13) rfl (ke 5 [od]) dt h
theorem Fn:bK (((Db 13).filter m.testBit).map nO)=af m:=r6 (kc m) λq=>by rw[to,d8];exact⟨λa=>aO a λb h e=>⟨b,e▸wf.mp (bv.mp J' b (Re.mp h).1),(Re.mp h).2⟩,λa=>aO a λb h k=>aE (bv.mp Ka _ h) λf d=>⟨b,Re.mpr ⟨bS.mpr (io f),k⟩,ii d⟩⟩
theorem gE(d:WD ks a)(i:R.length<az)(j:c<8192):Kk 67 [wm ks a,ae c] [some<|wm ks a,none] R L 1 (af c):=by
 obtain⟨t,S,e,g,h⟩:=Bw (ns:=((Db 13).filter c.testBit).map nO) (L:=L) d.tab (ac (by rw[im];exact aT _ _) (by decide:(Db 13).length<64)) i
 rw[Fn]at h;have f:=congrArg some<|decide_eq_false<|eQ.mpr<|Do c
 exact⟨t,S,kf 20 [ob f,ox<|M9 (g:=G R L) (m:=c) d,oc e],g,h⟩
theorem Nx(a:WD ks d)(e:R.length<az)(f:c<8194):Kk 67 [wm ks d,ae<|cI c] [some<|wm ks d,none] R L 1 (zx c):=by
 delta cI zx;induction h:co c 8192 with
 |true=>exact⟨16,R,kf 20 [od,od,op<|a.yT (G R L)<|some 0],.refl,rfl⟩
 |false=>
 induction g:co c 8193 with
 |true=>exact⟨21,R,kf 20 [od,od,op<|a.member (G R L)<|some 0],.refl,rfl⟩
 |false=>exact gE a e<|qn (cj<|qn (cj f)<|bG g)<|bG h
end
def da(m k:Nat):Nat:=bif U8.contains k then m -(m&&&k)else m
def jf(m k:Nat):Nat:=bif co m 2048|| !co (k&&&6144) 0 then m else(Db 11).foldl (λo b=>bif m.testBit b then o|||t7 b k else o) 0
def Iy(m:Nat)(ks a:List Nat)(d:Bool):Nat:=au<|a.foldl (λo k=>o|||jf (bif d then m else ks.foldl da m) k) (bif d then ks.foldl da m else 0)
theorem Jc(n)(g):((Db 11).map λ(b:Nat)=>TK.map λ(k:Nat)=>(ev FT CT<|n+20).call 75 [ae b,ae k] g)=(Db 11).map λ(b:Nat)=>TK.map λ(k:Nat)=>some (ae (t7 b k:Nat),[none,none],g):=by kernel_rfl
theorem RW:(MU.all λc=>co (au c) c&&SL c 8192&&(!decide (3∈af c)||(co (vd c) c&&MU.contains (vd c)))&&(c.testBit 10==decide (3∈af c))&&U8.all λk=>(!MU.contains (vd c)||co (vd<|de c k) (da (vd c) k))&&(c.testBit 10||(co (de c k) (da c k)&& !(de c k).testBit 10)))=true:=by decide+kernel
theorem Ch:(MU.all λm=>TK.all λk=>co (nW m k) (au<|jf m k)&&SL (jf m k) 8192)=true:=by decide+kernel
section
variable{g:List GO} {m b:Nat} {ks:List Nat}
theorem sm{j:Type}{b}{after:j->Option Nat->St}{f}{P:List Nat->j->Prop}(l:∀c o,(after c o).g[n]?=some (.list<|iv qs))(st:∀q r c o,P (q::r) c->oF t b (.int (q:Int)) (after c o) (after (f c q)<|some q)/\P r (f c q)){c}(h:P qs c):∃a,Ok (λF=>je (λs:St=>s.g) n (forTurn F t b) ((iv qs).length+1) 0<|after c o) (none,after (qs.foldl f c) a):=by
 obtain⟨_,d,a,e,u,p⟩:=P5 (S:=λ_ c o=>after c o) (J:=λr _ d=>P r d/\r.foldl f d=qs.foldl f c) (t:=t) (b:=b) (λ_ c o=>l c o) (λq r R c o h=>⟨R,f c q,(st q r c o h.1).1,(st q r c o h.1).2,h.2⟩) (qs:=qs) (i:=0) (k:=(iv qs).length+1) (R:=[]) (c:=c) (o:=o) rfl (by rw[aJ];exact Ix _) ⟨h,rfl⟩
 exact⟨a,p▸e⟩
def lmS(g:List GO)(n:Nat)(m:Nat)(o:Option Nat):St:=⟨[some<|ae m,some<|ak n,on o],g⟩
theorem zq(h:g[n]?=some (.list<|iv ks)):ai 74 [ae m,ak n] g (ae (ks.foldl da m:Nat)) [none,none] g:=by
 refine fN (sm (t:=.v 2) (b:=lb f74 0) (after:=lmS g n) (f:=da) (P:=λ_ _=>True) (λ_ _=>h) (λq r c o _=>⟨by
  have i:=t4 (g:=g) (l:=U8) (k:=q);delta da;induction u:U8.contains q with
  |true=>
   rw[decide_eq_true<|wf.mp u]at i
   exact kt 9 [ob i,ov<|jd (g:=g) (m:=c) (k:=q),oi<|Qj (m:=c) (k:=c&&&q) Pe]
  |false=>
   rw[decide_eq_false λh=>by rw[wf.mpr h]at u;exact ff u.symm]at i
   exact kt 9 [ob i],trivial⟩) (c:=m) (o:=none) trivial) λo e=>?_
 exact kf 20 [os<|mh (i:=1) rfl h e]
theorem W6(c:b<11)(a:k∈TK):ai 75 [ae b,ae k] g (ae (t7 b k:Nat)) [none,none] g:=Aq λn=>dg (n+20)▸ww.mp (ww.mp (Jc n g) b<|bS.mpr c) k a
theorem DC(w:k∈TK):ai 76 [ae m,ae k] g (ae (jf m k:Nat)) [none,none] g:=by
 have d:aS g .Eq (ae m) (ae (2048:Nat))=some (co m 2048):=ao ((cX m 2048).trans (by
  induction e:co m 2048 with
  |true=>exact decide_eq_true<|ii e
  |false=>exact decide_eq_false (bG e)))
 delta jf;induction u:co m 2048 with
 |true=>rw[u]at d;exact kf 20 [ob d]
 |false=>
 rw[u]at d;induction p:co (k&&&6144) 0 with
 |false=>exact kf 20 [ob d,ov<|jd (g:=g) (m:=k) (k:=6144),ob<|oU (g:=g) p]
 |true=>
  obtain⟨o,e,_⟩:=w8 (t:=.v 3) (b:=lb f76 2) (after:=λc o=>⟨[some<|ae m,some<|ae k,some<|ae ((c:Nat):Int),on o],g⟩) (f:=λo b=>bif m.testBit b then o|||t7 b k else o) (P:=λr _=>∀b∈r,b<11) (λq r c o h=>⟨by
    have a:=Qg (m:=m) (b:=q) (i:=0) (j:=3) (g:=g) (rs:=[some<|ae m,some<|ae k,some<|ae ((c:Nat):Int),ni q]) (ck<|Ev (h q<|.head _) (by decide)) rfl rfl
    induction e:m.testBit q with
    |true=>rw[e]at a;exact kt 9 [ot a,oc<|W6 (g:=g) (h q<|.head _) w,oi<|BJ (m:=c) (k:=t7 q k)]
    |false=>rw[e]at a;exact kt 9 [ot a],λb n=>h b (.tail _ n)⟩) (qs:=Db 11) (c:=0) (o:=none) λb n=>bS.mp n
  exact kf 20 [ob d,ov<|jd (g:=g) (m:=k) (k:=6144),ob<|oU (g:=g) p,os<|ka (b:=lb f76 2) (t:=.v 3) (it:=.bi .range rT) (s:=⟨[some<|ae m,some<|ae k,some<|ae 0,none],g⟩) (s1:=⟨[some<|ae m,some<|ae k,some<|ae 0,none],g⟩) (x:=.v<|.iH (11:Nat)) (ke 5 [od]) dt<|cz (src:=.l _) e]
theorem Bs{a:List Nat}(h:g[n]?=some (.list<|iv ks))(u:g[l]?=some (.list<|iv a))(x:∀k∈a,k∈TK)(p:a.foldl (λo k=>o|||jf (bif d then m else ks.foldl da m) k) (bif d then ks.foldl da m else 0)<8192):ai 77 [ae m,ak n,ak l,dj d] g (ae (Iy m ks a d:Nat)) [none,none,none,none] g:=by
 have j:=zq (m:=m) h;revert j p;generalize ks.foldl da m=r;intro p j;obtain⟨o,e⟩:=sm (t:=.v 6) (b:=lb f77 2) (n:=l) (qs:=a) (after:=λc o=>⟨[some<|ae m,some<|ak n,some<|ak l,some<|dj d,some<|ae r,some<|ae ((c:Nat):Int),on o],g⟩) (f:=λo k=>o|||jf (bif d then m else r) k) (P:=λr _=>∀b∈r,b∈TK) (λ_ _=>u) (λq s c o h=>⟨by
   induction d with
   |true=>exact kt 9 [od,oc<|DC (g:=g) (m:=m)<|h q<|.head _,oi<|BJ (m:=c) (k:=jf m q)]
   |false=>exact kt 9 [od,oc (DC (g:=g) (m:=r) (h q (.head _))),oi (BJ (m:=c) (k:=jf r q))],λb y=>h b (.tail _ y)⟩) (c:=bif d then r else 0) (o:=none) x
 have w:=qT g p;induction d with
 |true=>exact kf 20 [oc j,od,os<|mh (i:=2) rfl u e,oc w]
 |false=>exact kf 20 [oc j,od,os<|mh (i:=2) rfl u e,oc w]
end
noncomputable def ig(m:Nat):Nat:=m|||(bif co (m&&&4) 0 then 0 else 3)|||(bif co (m&&&32) 0 then 0 else 24)
noncomputable def xm(m k:Nat):Bool:=!co (m&&&k) 0
def Fs(c q:Nat):Nat:=bif (xm c 512&&xm q 1024)||(xm c 1024&&xm q 512)then(ig c&&&ig q)|||512 else ig c&&&ig q
noncomputable def yq(c q:Nat):Bool:=co c 4096||co q 4096
def dZ(c q:Nat):Nat:=bif yq c q then(bif co c 4096 then q else c)else au (Fs c q)
abbrev T2:Type:=Nat×Option RV×Option RV
def CN(c:T2)(q:Nat):T2:=(dZ c.1 q,bif yq c.1 q then c.2.1 else ni (ig q),bif yq c.1 q then c.2.2 else ni (Fs c.1 q))
def zf(g:List GO)(n:Nat)(c:T2)(o:Option Nat):St:=⟨[some<|ak n,ni c.1,on o,c.2.1,c.2.2],g⟩
theorem R7:(MT.all λa=>MT.all λb=>MT.contains (dZ a b)&&SL (Fs a b) 8192&&co (dZ a b) (tH a b)&&co (dZ (dZ a b) b) (dZ a b)&&MT.all λc=>!co (dZ a c) a||co (dZ (dZ a b) c) (dZ a b))=true:=by decide+kernel
def qR(ks:List Nat):Nat:=bif ks.contains 0 then 0 else bif ks.contains 2048 then 2048 else ks.foldl dZ 4096
section
variable{m k:Nat} {ks:List Nat}
theorem Fw{l:List Nat}{c}:(l.foldl CN c).1=l.foldl dZ c.1:=by
 induction l generalizing c with
 |nil=>rfl
 |cons q l a=>exact a
theorem sj(a:m∈MT)(b:k∈MT):Fs m k<8192/\dZ m k∈MT/\dZ m k=tH m k/\dZ (dZ m k) k=dZ m k/\∀c∈MT,dZ m c=m->dZ (dZ m k) c=dZ m k:=aE (bv.mp (bv.mp R7 m a) k b) λh f=>aE h λh g=>aE h λh i=>aE h λj l=>⟨io l,wf.mp j,ii i,ii g,λc d e=>by have:=bv.mp f c d;rw[e,gZ,cS,Os]at this;exact ii this⟩
theorem Ib:∀{kd m},m∈MT->(∀k∈a,k∈MT)->(∀c∈kd,c∈MT/\dZ m c=m)->Bl kd m a=a.foldl dZ m:=by
 induction a with
 |nil=>exact@λ_ _ _ _ _=>rfl
 |cons k a f=>
  intro kd m g d b;have s:=(sj g<|d k<|.head _).2
  show Bl (kd++[k]) (bif kd.contains k then m else tH m k) a=a.foldl dZ (dZ m k);have e:(bif kd.contains k then m else tH m k)=dZ m k:=by
   induction q:kd.contains k with
   |true=>exact(b k<|wf.mp q).2.symm
   |false=>exact s.2.1.symm
  rw[e];exact f s.1 (λk h=>d k<|.tail _ h) λc i=>(TD.mp i).elim (λh=>⟨(b c h).1,s.2.2.2 c (b c h).1 (b c h).2⟩) λh=>(wP.mp h).symm▸⟨d k<|.head _,s.2.2.1⟩
theorem Bj(h:ks.contains 2048=false)(b:∀k∈ks,k∈TK):∀k∈ks,k∈MT:=λk a=>Re.mpr ⟨b k a,by
 induction q:co k 2048 with
 |false=>rfl
 |true=>rw[ii q]at a;rw[wf.mpr a]at h;exact ff h.symm⟩
theorem Ic(a:∀k∈ks,k∈TK):MP ks=qR ks:=by
 delta MP qR;induction e0:ks.contains 2048 with
 |true=>rfl
 |false=>exact congrArg _ (Ib (kd:=[]) (by decide) (Bj e0 a) (λ_ h=>nomatch h))
theorem DZ:decide (q∈ks)=ks.contains q:=by
 induction e:ks.contains q with
 |true=>exact decide_eq_true<|wf.mp e
 |false=>exact decide_eq_false λh=>by rw[wf.mpr h]at e;exact ff e.symm
theorem eT{k:Nat}:aS g .Eq (ae m) (ae k)=some (co m k):=ao ((cX m k).trans (by
 induction e:co m k with
 |true=>exact decide_eq_true<|ii e
 |false=>exact decide_eq_false (bG e)))
theorem IK(d:rs[i]?=some (some<|ae m)):Ok (λf=>f.e (.bin .BitOr (.bin .BitOr (.v i)<|.ite (.bin .BitAnd (.v i) jA) gV aH)<|.ite (.bin .BitAnd (.v i) u5) JT aH) ⟨rs,g⟩) (ae (ig m:Nat),⟨rs,g⟩):=by
 have j:∀(k:Nat)(n:Nat),(EV<|n+4).b (.bin .BitAnd (.v i)<|.c<|.int k) ⟨rs,g⟩=some (!co (m&&&k) 0,⟨rs,g⟩):=λk n=>b_e rfl (Gk rfl<|uh (Ml d) (Gk rfl N8) (eI d) rfl<|jd (k:=k)) rfl CC
 have l:∀(k a n:Nat),(EV<|n+5).e (.ite (.bin .BitAnd (.v i)<|.c<|.int k) (.c<|.int a)<|.c<|.int (0:Nat)) ⟨rs,g⟩=some (ae ((bif co (m&&&k) 0 then 0 else a:Nat):Int),⟨rs,g⟩):=λk a n=>by
  have h:=j k n;induction e:co (m&&&k) 0 with
  |true=>rw[e]at h;exact Tu h N8
  |false=>rw[e]at h;exact Ts h N8
 exact Ok.of 7 λn=>uh (Gk rfl<|uh (Ml d) (Gk rfl<|l 4 3 n) (eI d) rfl H') (Gk rfl<|l 32 24<|n+1) rfl rfl H'
theorem LQ{d:Nat}(a:s.r[j]?=some (some<|ae m)):Ok (λf=>f.b (.bin .BitAnd (.v j)<|.c<|.int d) s) (xm m d,s):=Ok.of 4 λn=>b_e rfl (Gk rfl<|uh (Ml a) (Gk rfl N8) (eI a) rfl<|jd (k:=d)) rfl CC
theorem MR{n c q}(p:Fs c.1 q<8192):oF (.v 2) (lb f73 2) (.int (q:Int)) (zf g n c o) (zf g n (CN c q)<|some q):=by
 obtain⟨c,x,y⟩:=c;have a:Ok (λf=>f.b (.or [(.cmp .Eq (.v 1) jl),(.cmp .Eq (.v 2) jl)])<|zf g n (c,x,y)<|some q) (yq c q,zf g n (c,x,y)<|some q):=by
  have:=Qf<|Za (kb (b:=.cmp .Eq (.v 1) jl) (y:=(co c 4096,zf g n (c,x,y)<|some q)) 5 [ob<|eT (g:=g) (m:=c) (k:=4096)])<|Za (kb (b:=.cmp .Eq (.v 2) jl) (y:=(co q 4096,zf g n (c,x,y)<|some q)) 5 [ob<|eT (g:=g) (m:=q) (k:=4096)]) UA
  rwa [cS,cB]at this
 show oF _ _ _ _ (zf g n (bif yq c q then _ else _,bif yq c q then _ else _,bif yq c q then _ else _) _);induction e:yq c q with
 |true=>
  rw[e]at a;induction w:co c 4096 with
  |true=>exact kt 9 [ot a,ob<|(eT (g:=g) (m:=c) (k:=4096)).trans<|congrArg some w]
  |false=>exact kt 9 [ot a,ob<|(eT (g:=g) (m:=c) (k:=4096)).trans<|congrArg some w]
 |false=>
  rw[e]at a;have z:St:=⟨[some<|ak n,ni c,ni q,ni<|ig q,y],g⟩
  have t:=IK (g:=g) (m:=q) (i:=2) (rs:=[some<|ak n,ni c,ni q,x,y]) rfl
  have r:Ok (λf=>f.e (.bin .BitAnd (.bin .BitOr (.bin .BitOr (.v 1)<|.ite (.bin .BitAnd (.v 1) jA) gV aH)<|.ite (.bin .BitAnd (.v 1) u5) JT aH)<|.v 3) ⟨[some<|ak n,ni c,ni q,ni<|ig q,y],g⟩) (ae ((ig c&&&ig q:Nat):Int),⟨[some<|ak n,ni c,ni q,ni<|ig q,y],g⟩):=by
   obtain⟨k,h⟩:=IK (g:=g) (m:=c) (i:=1) (rs:=[some<|ak n,ni c,ni q,ni<|ig q,y]) rfl
   exact⟨k+1,λj=>AT k 1 j▸uh (Gk rfl<|h j) (Ml rfl) rfl rfl jd⟩
  have l:=Qf (s:=⟨[some<|ak n,ni c,ni q,ni<|ig q,ni<|ig c&&&ig q],g⟩)<|Za (xe<|OR (LQ (m:=c) (j:=1) (d:=512) rfl)<|OR (LQ (m:=q) (j:=2) (d:=1024) rfl) UA)<|Za (xe<|OR (LQ (m:=c) (j:=1) (d:=1024) rfl)<|OR (LQ (m:=q) (j:=2) (d:=512) rfl) UA) UA
  rw[Bool.not_false,xX,xX,cS,cB]at l;delta Fs at p⊢;induction u:(xm c 512&&xm q 1024)||(xm c 1024&&xm q 512)with
  |true=>rw[u]at l p;exact kt 9 [ot a,o8 t,o8 r,ot l,oi<|BJ (m:=ig c&&&ig q) (k:=512),oc<|qT g p]
  |false=>rw[u]at l p;exact kt 9 [ot a,o8 t,o8 r,ot l,oc<|qT g p]
theorem WV(h:g[n]?=some (.list<|iv ks))(u:∀k∈ks,k∈TK):ai 73 [ak n] g (ae (qR ks:Nat)) [none] g:=by
 have a:=(xi (q:=0) h).trans<|congrArg some DZ
 have d:=(xi (q:=2048) h).trans<|congrArg some DZ
 delta qR;induction e:ks.contains 0 with
 |true=>rw[e]at a;exact kf 20 [ob a,ob a]
 |false=>
 rw[e]at a;induction s:ks.contains 2048 with
 |true=>rw[s]at d;exact kf 20 [ob a,ob d,ob a]
 |false=>
  rw[s]at d;obtain⟨o,j⟩:=sm (t:=.v 2) (b:=lb f73 2) (n:=n) (qs:=ks) (after:=zf g n) (f:=CN) (P:=λr c=>c.1∈MT/\∀q∈r,q∈MT) (λ_ _=>h) (λq r c o p=>⟨MR (sj p.1<|p.2 q<|.head _).1,(sj p.1<|p.2 q<|.head _).2.1,λq h=>p.2 q<|.tail _ h⟩) (c:=(4096,none,none)) (o:=none) ⟨by decide,Bj s u⟩
  have f:=Fw (l:=ks) (c:=(4096,none,none));revert j f;generalize ks.foldl CN (4096,none,none)=z;intro j f;obtain⟨y,x,w⟩:=z;refine f▸?_;exact kf 20 [ob a,ob d,os<|mh (i:=0) rfl h j]
end
theorem Vq:(TK.all λk=>SL k 8192)=true:=by decide+kernel
section
variable{m:Nat} {ks ks2:List Nat}
theorem kg(m):au m<8192:=by
 delta au;by_cases h:m.testBit 11=true
 .rw[if_pos h];decide
 .rw[if_neg h];by_cases h:m.testBit 12=true
  .rw[if_pos h];decide
  .rw[if_neg h];exact ac Nat.and_le_right (by induction m.testBit 5<;>decide)
theorem VU(d:a<8192)(c:b<8192):a|||b<8192:=kD (n:=13) d c
theorem DO{f:Nat->Nat}{l:List Nat}:∀{a},a<8192->(∀k∈l,f k<8192)->l.foldl (λo k=>o|||f k) a<8192:=by
 induction l with
 |nil=>exact@λ_ h _=>h
 |cons k l c=>exact@λ_ h b=>c (VU h<|b k<|.head _) λk m=>b k<|.tail _ m
theorem NX{l:List Nat}:∀{a},l.foldl (λo k=>o|||f k) a=a|||orM (l.map f):=by
 induction l with
 |nil=>exact@λa=>(fE a).symm
 |cons k l b=>intro a;rw[cO,b,xL,cw,cg]
theorem RD(h:∀k∈ks,k<8192):orM ks<8192:=DO (f:=id) (l:=ks) (a:=0) (wv _) h
theorem Cy(h:k∈TK):k<8192:=io<|bv.mp Vq k h
structure MuF(m:Nat):Prop where
 fl:au m=m
 lt:m<8192
 vd1:3∈af m->vd m=m/\MU.contains (vd m)=true
 b10:m.testBit 10=decide (3∈af m)
 st:∀k∈U8,(MU.contains (vd m)=true->vd (de m k)=da (vd m) k)/\(m.testBit 10=false->de m k=da m k/\(de m k).testBit 10=false)
theorem E4(g:m∈MU):MuF m:=by
 refine aE (bv.mp RW m g) λh j=>aE h λh l=>aE h λh f=>aE h λo n=>⟨ii o,io n,λe=>?_,eq_of_beq l,λk i=>?_⟩
 .rw[decide_eq_true e,cS,Os]at f;exact aE f λa b=>⟨ii a,b⟩
 .refine aE (bv.mp j k i) λa b=>⟨λe=>?_,λe=>?_⟩
  .rw[e,cS,Os]at a;exact ii a
  .rw[e,Os]at b;exact aE b λc d=>⟨ii c,bN d⟩
theorem pz{m k}(h:U8.contains k=false):de m k=m/\da m k=m:=⟨by delta de;rw[h,if_neg xz,ite_self],by delta da;rw[h];rfl⟩
theorem Vf{ks:List Nat}:∀{c},c∈MU->MU.contains (vd c)=true->vd (ks.foldl de c)=ks.foldl da (vd c):=by
 induction ks with
 |nil=>exact@λ_ _ _=>rfl
 |cons k ks f=>
  intro c b d;have a:=Cm (ks:=[k]) b d;have e:vd (de c k)=da (vd c) k:=by
   induction u:U8.contains k with
   |true=>exact((E4 b).st k<|wf.mp u).1 d
   |false=>rw[(pz (m:=c) u).1,(pz (m:=vd c) u).2]
  rw[cO,cO,<-e];exact f (i8 b) a
theorem Vg{ks:List Nat}:∀{c},c∈MU->c.testBit 10=false->ks.foldl de c=ks.foldl da c:=by
 induction ks with
 |nil=>exact@λ_ _ _=>rfl
 |cons k ks b=>
  intro c a d;rw[cO,cO];induction u:U8.contains k with
  |true=>
   have s:=((E4 a).st k<|wf.mp u).2 d
   refine s.1▸?_;exact b (i8 a) s.2
  |false=>rw[(pz (m:=c) u).1,(pz (m:=c) u).2];exact b a d
theorem qx(a:m∈MU):g8 m ks=ks.foldl da m:=by
 have f:=E4 a;delta g8;induction e:decide (3∈af m)with
 |true=>
  have v:=f.vd1<|of_decide_eq_true e
  exact(Vf a v.2).trans (by rw[v.1])
 |false=>exact Vg a<|f.b10.trans e
theorem GD(b:m∈MU)(a:∀k∈ks,k∈TK):ks.map (nW m)=(ks.map<|jf m).map au:=bD▸ej λk c=>aE (bv.mp (bv.mp Ch m b) k<|a k c) λh _=>ii h
theorem Sp(b:m∈MU)(a:∀k∈ks,k∈TK):∀k∈ks,jf m k<8192:=λk c=>aE (bv.mp (bv.mp Ch m b) k<|a k c) λ_ h=>io h
theorem CE(a:m∈MU)(d):(bif d then m else ks.foldl da m)∈MU:=by
 induction d with
 |true=>exact a
 |false=>exact qx (ks:=ks) a▸yt a
theorem AS(b:m∈MU)(a:∀k∈ks2,k∈TK):af (wF m ks ks2 d)=af (Iy m ks ks2 d):=by
 delta wF Iy;rw[NX];have c:ks.foldl da m∈MU:=CE (d:=false) b;rw[qx b];induction d with
 |true=>
  show af (au<|orM<|ks2.map (nW m)++[ks.foldl da m])=af (au<|ks.foldl da m|||orM (ks2.map<|jf m))
  have e:[ks.foldl da m]=[ks.foldl da m].map au:=by rw[xL,(E4 c).fl];rfl
  rw[GD b a,e,<-AC,DP,C6,nS];exact congrArg (λx=>af<|au<|x|||_) (by rw[cw];exact fE _)
 |false=>
  show af (au<|orM<|ks2.map<|nW<|ks.foldl da m)=af (au<|0|||orM (ks2.map<|jf<|ks.foldl da m))
  rw[GD c a,DP,eP]
theorem EB(b:m∈MU)(a:∀k∈ks2,k∈TK):ks2.foldl (λo k=>o|||jf (bif d then m else ks.foldl da m) k) (bif d then ks.foldl da m else 0)<8192:=DO (by induction d with
  |true=>exact(E4<|CE (ks:=ks) (d:=false) b).lt
  |false=>exact(by decide:0<8192)) (Sp (CE b d) a)
end
noncomputable def PD:Str:=⟨#[104,111,115,116]⟩
noncomputable def pd:Str:=⟨#[104,97,110,100,101,100]⟩
noncomputable def wM:Str:=⟨#[109,111,100,101,108,115]⟩
noncomputable def tf:Str:=⟨#[115,117,98,106,101,99,116]⟩
noncomputable def sf:Str:=⟨#[99,111,112,105,101,115]⟩
noncomputable def pO:List PV:=[.aZ 16,.aZ 17,.aZ 18,.aZ 19]
noncomputable def uU:List PV:=[.aZ 12,.aZ 13,.aZ 14,.aZ 15]
structure WF(ks vs:List PV)(t m:Nat):Prop extends WD ks vs where
 host:K3 ks vs PD (.aZ 10)
 handed:K3 ks vs pd (.lst pO)
 oj:K3 ks vs wM (.lst uU)
 CF:K3 ks vs tf (.tup [.int (t:Int),.int (m:Int)])
 BV:K3 ks vs sf (.aZ 20)
section
variable{R S:List PV} {L:List GO} {g:List GO} {kw vw:List PV} {t m how c:Nat} {one oth:Nat} {qs ks:List Nat}
theorem rB(i j:Nat)(a:decide ((0:Int)<(j:Int))=true):hK g .Mod (ae i) (ae j)=some (ae ((i % j:Nat):Int)):=(mI ((if_pos<|of_decide_eq_true a).trans<|congrArg some (Int.ofNat_fmod i j).symm) rfl:(binI .Mod (i:Int) (j:Int)).map (λk=>RV.v<|.int k)=_)
theorem Xf(i:Nat):binI .FloorDiv (i:Int) ((2:Nat):Int)=some ((i/2:Nat):Int):=by delta binI;dsimp only;rw[if_pos ⟨by decide,by decide⟩,<-wt]
theorem V3(i:Nat):hK g .FloorDiv (ae i) (ae ((2:Nat):Int))=some (ae ((i/2:Nat):Int)):=(mI (Xf i) rfl:(binI .FloorDiv (i:Int) ((2:Nat):Int)).map (λk=>RV.v<|.int k)=_)
theorem Se(f:∀k∈ks,k∈TK):qR ks<8192:=by
 have i:∀{l:List Nat}{a:Nat},a∈MT->(∀k∈l,k∈MT)->l.foldl dZ a∈MT:=λ{l}=>by
  induction l with
  |nil=>exact λh _=>h
  |cons k l d=>exact λh b=>d (sj h<|b k<|.head _).2.1 λk m=>b k<|.tail _ m
 delta qR;induction ks.contains 0 with
 |true=>exact(by decide:0<8192)
 |false=>
 induction e:ks.contains 2048 with
 |true=>exact(by decide:2048<8192)
 |false=>exact Cy<|Ia<|i (by decide)<|Bj e f
theorem S9:((Db 4).map λo=>(pO[o]?,uU[o]?))=(Db 4).map λo=>(some<|.aZ<|o+16,some<|.aZ<|o+12):=rfl
theorem Qk(h:one<4):(pO[one]?,uU[one]?)=(some<|.aZ<|one+16,some<|.aZ<|one+12):=ww.mp S9 one<|bS.mpr h
theorem CG(h:one<4):gy g (.v<|.lst pO) (.int (one:Int))=some (.aZ<|one+16):=r9<|congrArg Pv<|Qk h
theorem Hc(h:one<4):gy g (.v<|.lst uU) (.int (one:Int))=some (.aZ<|one+12):=r9<|congrArg py<|Qk h
def Z3(g:List GO)(kw vw:List PV)(a how one oth t m:Nat)(o9 d b:Option RV):St:=⟨[some<|wm kw vw,ni a,ni how,ni one,ni oth,some<|ak<|one+16,some<|ak<|one+12,ni t,ni m,o9,d,b],g⟩
def Dz(g:List GO)(a:WF kw vw t m)(how:Nat)(b:how % 2<4):List Ob:=[ov<|rB (g:=g) how 2 rfl,ov<|V3 (g:=g) how,ov<|rB (g:=g) (how/2) 2 rfl,op<|a.handed g<|some 0,op<|CG (g:=g) b,op<|a.oj g<|some 0,op<|Hc (g:=g) b,op<|a.CF g<|some 0]
theorem xA(f:KM S b x)(g:dU S c R)(d:bz R (af a) y)(e:af b=af a):aS (G R L) .Eq (ae x) (ae y)=some true:=ao ((cX x y).trans<|decide_eq_true<|bz.inj (show bz R (af a) x from e▸(g.km f)) d)
noncomputable def dB(how:Nat):Bool:=decide ((3:Int)<(how:Int))&&decide ((how:Int)<8)
theorem II(g)(a how one oth t m)(o9 d b):Ok (λf=>f.e (.and [(.cmp .Gt (.v 2) gV),(.cmp .Lt (.v 2) yd)])<|Z3 g kw vw a how one oth t m o9 d b) (dj<|dB how,Z3 g kw vw a how one oth t m o9 d b):=ow (ke 5 [])<|ke 5 []
structure QG(R:List PV)(L:List GO)(one:Nat)(qs ks:List Nat):Prop where
 hq:L[one+4]?=some (.list<|iv qs)
 hk:L[one]?=some (.list<|iv ks)
 km:oL R qs ks
 ts:∀k∈ks,k∈TK
 le:qs.length<=3
theorem QG.gk (h:QG R L one qs ks) (S):(G S L)[one+12]?=some (.list<|iv ks):=h.hk
inductive jM(a:Nat)(d:List RV)(b:List (Option RV))(R:List PV)(L:List GO)(c:Nat):Prop
 |mk (S:List PV) (e:ai a d (G R L) (dj true) b (G S L)) (g:dU R c S):jM a d b R L c
theorem Z2(A:Tb R)(l:WF kw vw t m)(a:QG R L (how % 2) qs ks)(p:R.length+60<az):jM 79 [wm kw vw,ae (0:Nat),ae how] [some<|wm kw vw,none,none] R L 60:=by
 have C:how % 2<4:=Ev (fF _<|wv _) (by decide)
 have d:∀k∈ks,k<8192:=λk h=>Cy<|a.ts k h
 obtain⟨x,S,e,u,z⟩:=jI A (L:=L) (bq.aZ (n:=how % 2+16)<|show(G R L)[how % 2+16]?=_ from a.hq) a.km (ac (mr _)<|ac (FS 13<|a.km.len▸a.le) (by decide))<|ac (pp _ 60) p
 obtain⟨o,E⟩:=sm (t:=.v 11) (b:=[.aug 10 .BitOr<|.v 11]) (n:=how % 2+12) (qs:=ks) (after:=λc o=>Z3 (G S L) kw vw 0 how (how % 2) (how/2 % 2) t m (ni x) (ni c)<|on o) (f:=λo k=>o|||k) (P:=λ_ _=>True) (λ_ _=>a.hk) (λq r c o _=>⟨kt 9 [oi<|BJ (m:=c) (k:=q)],trivial⟩) (c:=0) (o:=none) trivial
 obtain⟨y,F,D,s,w⟩:=gE (L:=L) l.toWD (ac (am u.len<|db (by decide) _) p)<|kg<|orM ks
 exact⟨F,kf 30<|Dz (G R L) l how C++[ob<|ao (g:=G R L) (i:=0) (j:=0) rfl,op<|l.tab (G R L)<|some 0,oc e,os<|mh (i:=6) rfl (a.gk S) E,oc<|qT (G S L)<|RD d,oc D,ob<|xA (L:=L) z s w rfl],(u.trans s).up (by decide)⟩
theorem Z1(o:Tb R)(b:WF kw vw t m)(a:QG R L (how % 2) qs ks)(d:R.length+60<az):jM 79 [wm kw vw,ae (1:Nat),ae how] [some<|wm kw vw,none,none] R L 60:=by
 have p:how % 2<4:=Ev (fF _<|wv _) (by decide)
 obtain⟨x,S,e,h,n⟩:=Nz o (L:=L) a.hq a.km a.ts a.le<|ac (db (by decide) _) d
 have k:=Se a.ts;obtain⟨y,r,q,f,l⟩:=gE (L:=L) b.toWD (ac (am h.len<|db (by decide) _) d) k
 exact⟨r,kf 30<|Dz (G R L) b how p++[ob<|ao (g:=G R L) (i:=1) (j:=0) rfl,ob<|ao (g:=G R L) (i:=1) (j:=1) rfl,op<|b.tab (G R L)<|some 0,oc e,oc<|WV (a.gk S) a.ts,oc q,ob<|xA (L:=L) n f l<|congrArg _<|Ic a.ts],(h.trans f).up (by decide)⟩
theorem Z0(r:Tb R)(f:WF kw vw t m)(q:KM R m t)(h:m∈MU)(a:QG R L (how % 2) qs ks)(k:R.length+60<az):jM 79 [wm kw vw,ae (2:Nat),ae how] [some<|wm kw vw,none,none] R L 60:=by
 have s:how % 2<4:=Ev (fF _<|wv _) (by decide)
 have b:=FS 2 a.le;obtain⟨x,S,e,n,p⟩:=DA r (L:=L) q h a.hq a.km a.ts<|ac (db (am b (by decide)) _) k
 obtain⟨y,v,u,l,o⟩:=gE (L:=L) f.toWD (ac (am n.len<|db (am (b6 b) (by decide)) _) k) (E4<|CE (ks:=ks) (d:=false) h).lt
 exact⟨v,kf 30<|Dz (G R L) f how s++[ob<|ao (g:=G R L) (i:=2) (j:=0) rfl,ob<|ao (g:=G R L) (i:=2) (j:=1) rfl,ob<|ao (g:=G R L) (i:=2) (j:=2) rfl,op<|f.host (G R L)<|some 0,oc e,oc<|zq (m:=m)<|a.gk S,oc u,ob<|xA (L:=L) p l o<|congrArg af<|qx h],(n.trans l).up<|am (lf (b6 b) _) (by decide)⟩
theorem ZZ(z:Tb R)(b:WF kw vw t m)(w:KM R m t)(l:m∈MU)(f:QG R L (how % 2) qs ks)(a:QG R L (how/2 % 2) s h)(n:R.length+60<az):jM 79 [wm kw vw,ae (3:Nat),ae how] [some<|wm kw vw,none,none] R L 60:=by
 have A:how % 2<4:=Ev (fF _ (by decide)) (by decide)
 have p:how/2 % 2<4:=Ev (fF _ (by decide)) (by decide)
 obtain⟨x,S,e,r,v⟩:=IL z (L:=L) (d:=dB how) w l f.hq f.km f.ts a.hq a.km a.ts f.le a.le<|ac (db (by decide) _) n
 obtain⟨y,D,C,q,u⟩:=gE (L:=L) b.toWD (ac (am r.len<|db (by decide) _) n)<|kg<|h.foldl (λo k=>o|||jf (bif dB how then m else ks.foldl da m) k) (bif dB how then ks.foldl da m else 0)
 exact⟨D,kf 30 (Dz (G R L) b how A++[ob (ao (g:=G R L) (i:=3) (j:=0) rfl),ob (ao (g:=G R L) (i:=3) (j:=1) rfl),ob (ao (g:=G R L) (i:=3) (j:=2) rfl),op (b.host (G R L) (some 0)),op (b.handed (G R L) (some 0)),op (CG (g:=G R L) p),ox (II (kw:=kw) (vw:=vw) (G R L) 3 how (how % 2) (how/2 % 2) t m none none none),oc e,op (b.oj (G S L) (some 0)),op (Hc (g:=G S L) p),ox (II (kw:=kw) (vw:=vw) (G S L) 3 how (how % 2) (how/2 % 2) t m (ni x) none none),oc (Bs (m:=m) (d:=dB how) (f.gk S) (a.gk S) a.ts (EB l a.ts)),oc C,ob (xA (L:=L) v q u (AS l a.ts))]),(r.trans q).up (by decide)⟩
end
structure Node(row:List PV)(kids:List Nat):Prop where
 k26:∀g,ai 26 [ak 0,dQ row] g (.ml none<|iv kids) [none,none] g
 k25:∀g,ai 25 [dQ row] g (dQ []) [none] g
 par:∃(k:Int)(xs:List PV),row=.int k::xs/\(k=10->xs=[.int 0])
noncomputable def lF:List Nat->Nat
 |[]=>0
 |n::l=>n+lF l
inductive Tr(R:List PV):Nat->Nat->Prop
 |mk {t n:Nat} {b:List PV} {a ns:List Nat} (h:R[t]?=some (.tup b)) (c:Node b a) (e:a.length=ns.length) (f:∀p∈a.zip ns,Tr R p.1 p.2) (d:1+lF ns=n):Tr R t n
def Nd(R:List PV)(t:Nat):Prop:=∃a b,R[t]?=some (.tup a)/\Node a b
section
variable{R:List PV} {L:List GO} {g:List GO} {t:Nat}
theorem QQ(h:Ok (λf=>f.b c s) (false,s)):Ok (λf=>GG f c b (k+1) s) (.dK,s):=h.one λf e=>bI e rfl
theorem Ph(h:Ok (λf=>f.b c s) (true,s))(j:Ok (λf=>f.iT b s) (.dK,d))(i:Ok (λf=>GG f c b k d) r):Ok (λf=>GG f c b (k+1) s) r:=(h.two j (H:=λf=>(f.b c s).bind λx=>(f.iT b s).map λy=>(x,y)) λf e a=>bI e<|mI a rfl).two i λf e l=>bE e λx m e=>mE e λy a e=>by obtain⟨rfl,rfl⟩:=pJ e;exact bI m<|(if_pos rfl).trans<|bI a l
def HE(g:List GO)(t:Nat)(ks a:List Nat)(o:Option RV):St:=⟨[some<|ak 0,ni t,some<|.md none (iv ks)<|ones ks,some<|.ml none<|iv a.reverse,o],g⟩
def rcB:List Sm:=match(f27.body[2]?:Option Sm)with
 |some (.g7 _ b)=>b
 |_=>[]
theorem wG(l):∀(m),lF (l++m)=lF l+lF m:=by
 induction l with
 |nil=>exact@λm=>(ss _).symm
 |cons n l a=>intro m;show n+lF (l++m)=n+lF l+lF m;rw[a m,wn]
theorem LS(l):lF l.reverse=lF l:=by
 induction l with
 |nil=>exact rfl
 |cons n l a=>rw[bt,wG,a];exact wp ..
theorem Tr.pos (h:Tr R t n):1<=n:=by obtain⟨_,_,_,_,q⟩:=h;exact q▸pp 1 _
theorem HD{ks}:uJ (HE g t ks (a::us) o) .pop (.pl 3) []=some (ae a,HE g t ks us o):=by
 show((iv (a::us).reverse).getLast?).bind (λx=>((Op.pl 3).store (HE g t ks (a::us) o)<|.ml none (iv (a::us).reverse).dropLast).map λb=>(RV.v x,b))=_
 rw[show iv (a::us).reverse=iv us.reverse++[.int (a:Int)] by rw[bt,gF],Cg,nA]
 rfl
theorem Rt{ks}(h:us.length+kids.length<=az):uJ (HE g t ks us o) .extend (.pl 3) [.lst<|iv kids]=some (.v .none,HE g t ks (kids.reverse++us) o):=by
 show(if(iv us.reverse).length+(iv kids).length<=az then((Op.pl 3).store (HE g t ks us o)<|.ml none<|iv us.reverse++iv kids).map (λa=>(RV.v .none,a))else none)=_
 rw[if_pos (by rw[aJ,aJ,oJ];exact h),show iv us.reverse++iv kids=iv (kids.reverse++us).reverse by delta iv;rw[List.reverse_append,Cf,AC]]
 rfl
theorem Rr{ks}(b:ks.length<64):Ok (λf=>cH f (.asg (.sub (.v 2)<|.v 4) bJ)<|HE g t ks us<|ni a) (.dK,HE g t (fp ks a) us<|ni a):=Ok.of 2 λn=>qF N8 (Ml rfl) (Qs rfl) rfl rfl rfl (by
  show(decide ((iv ks).length<az)&&((true&&(iv ks).all DG)||(false&&(iv ks).all I3)))=true
  rw[pI,aJ,decide_eq_true (Ev b (by decide))];rfl) (by
  show some (St.put _ 2<|some<|.md none (upd (iv ks) (ones ks) (.int (a:Int))<|.int 1).1 (upd (iv ks) (ones ks) (.int (a:Int))<|.int 1).2)=_
  rw[AK];rfl)
def Wt(R:List PV)(a:List (Nat×Nat)):Prop:=∀p∈a,Tr R p.1 p.2
theorem Wt.len:Wt R us->us.length<=lF (us.map py):=by
 induction us with
 |nil=>exact@λ_=>v6 _
 |cons p us q=>intro h;rw[FB,wp];exact TE (h p<|.head _).pos<|q λp m=>h p<|.tail _ m
inductive RcE(R:List PV)(L:List GO)(t:Nat)(F:iU->Option (Fl×St)):Prop
 |mk (ks:List Nat) (o:Option RV) (e:Ok F (.dK,HE (G R L) t ks [] o)) (b:∀k∈ks,Nd R k) (a:ks.length<64):RcE R L t F
theorem VM(b:1<=m)(h:m+s<=N+1)(a:k+(N+1)<64):s<=N/\k+N<64/\k<64/\k+1+N<64:=⟨bH<|am (db b s)<|am (EQ<|wp s m) h,cM a,ac (pp ..) a,(AT k 1 N).symm▸a⟩
theorem wU:∀{N us ks o},Wt R us->lF (us.map py)<=N->(∀k∈ks,Nd R k)->ks.length+N<64->RcE R L t λf=>GG f (.v 3) rcB (X+N+1) (HE (G R L) t ks (us.map Pv) o)
 |N,[],ks,o,_,_,x,E=>⟨ks,o,QQ<|kb 5 [od],x,ac (pp _ _) E⟩
 |0,_::_,_,_,y,q,_,_=>absurd (am y.len q)<|dP _
 |N+1,(a,m)::us,ks,o,y,q,x,E=>by
  have J:=y (a,m)<|.head _
  have F:cF (G R L) (.ml none<|iv<|(a::us.map Pv).reverse)=some true:=by rw[bt,<-gF];induction iv (us.map Pv).reverse<;>rfl
  have O:=congrArg some<|decide_eq_true<|Do a
  have c:aS (G R L) .NotIn (ae a) (.md none (iv ks)<|ones ks)=some (decide<|a∉ks):=tB rfl
  have n:Wt R us:=λp h=>y p<|.tail _ h
  have r:=VM J.pos (show m+lF (us.map py)<=N+1 from q) E;induction e:decide (a∉ks)with
  |false=>rw[e]at c;obtain⟨i,C,z,l,j⟩:=wU (o:=ni a) n r.1 x r.2.1;exact⟨i,C,Ph (kb 5 [ob F]) (kl 9 [om<|HD (g:=G R L) (t:=t) (us:=us.map Pv) (a:=a) (ks:=ks) (o:=o),ob O,ob c]) z,l,j⟩
  |true=>
   rw[e]at c;have q:m+lF (us.map py)<=N+1:=q;have s:=am n.len<|am r.1<|am (ut N _)<|ck r.2.1
   obtain@⟨_,_,A,kids,d,h,I,b,w,D⟩:=J;have Q:((kids.zip d).reverse++us).map Pv=kids.reverse++us.map Pv:=by rw[AC,rZ,Kw<|EQ b]
   have P:((kids.zip d).reverse++us).map py=d.reverse++us.map py:=by rw[AC,rZ,List.map_snd_zip<|EQ b.symm]
   have M:Wt R ((kids.zip d).reverse++us):=λp S=>(TD.mp S).elim (λh=>w p<|List.mem_reverse.mp h)<|n p
   have H:lF (((kids.zip d).reverse++us).map py)<=N:=by rw[P,wG,LS];have D:1+lF d=m:=D;rw[<-D,wn,wp]at q;exact bH q
   have u:kids.length<=64:=by have:=M.len;rw[ch,oJ,List.length_zip,<-b,Nat.min_self]at this;exact am (am (pp _ _) this)<|am H<|am (ut N _)<|ck r.2.1
   obtain⟨i,C,z,l,j⟩:=wU (N:=N) (us:=(kids.zip d).reverse++us) (ks:=fp ks a) (o:=ni a) M H (λk T=>(pA.mp T).elim (x k) λe=>e▸⟨A,kids,h,I⟩)<|ac (lf (iw ks a) N) r.2.2.2
   rw[Q]at z;exact⟨i,C,Ph (kb 5 [ob F]) (kl 9 [om (HD (g:=G R L) (t:=t) (us:=us.map Pv) (a:=a) (ks:=ks) (o:=o)),ob O,ob c,os (Rr (g:=G R L) (t:=t) (us:=us.map Pv) (ks:=ks) (a:=a) r.2.2.1),op (bj (L:=L) h),oc (I.k26 (G R L)),om (Rt (g:=G R L) (t:=t) (us:=us.map Pv) (kids:=kids) (ks:=fp ks a) (o:=ni a) (by rw[im];exact am (TE s u) (by decide)))]) z,l,j⟩
theorem Fg(d:Tr R t n)(b:n<64):∃ks:List Nat,ai 27 [ak 0,ae t] (G R L) (.ml none<|iv ks) [none,none] (G R L)/\(∀k∈ks,Nd R k)/\ks.length<64:=by
 obtain⟨ks,o,e,c,a⟩:=wU (X:=99 - n) (N:=n) (us:=[(t,n)]) (ks:=[]) (L:=L) (t:=t) (o:=none) (λp h=>by rw[wP.mp h];exact d) (v6 _) (λ_ h=>nomatch h) (by rw[tz,ss];exact b)
 rw[show 99 - n+n+1=100 by omega]at e
 exact⟨gf ks,kf 20 [os<|show Ok (λf=>cH f (.g7 (.v 3) rcB)<|HE (G R L) t [] [t] none) _ from e,ov<|qC (g:=G R L) (t:=none) a],λk h=>c k<|d7.mp h,by rw[eF];exact a⟩
end
section
variable{R:List PV} {g:List GO} {t:Nat} {ks:List Nat}
def Qm(g:List GO)(t:Nat)(x o7 o8:Option RV):St:=⟨[some<|ak 0,ni t,x,none,none,none,none,o7,o8],g⟩
theorem Kd{t:Option Nat}:∀{ks:List Nat},boolsOf (ks.map λ_=>PV.tup [])=some (ks.map λ_=>false)
 |[]=>rfl
 |_::ks=>bI rfl<|mI (Kd (t:=t) (ks:=ks)) rfl
theorem NH{ks:List Nat}:intsOf (ks.map λ_=>PV.int 0)=some (ks.map λ_=>0):=by
 induction ks with
 |nil=>exact rfl
 |cons _ ks a=>exact bI rfl<|mI (a) rfl
theorem TV{ks:List Nat}:(ks.map λ_=>false).any id=false:=by
 induction ks with
 |nil=>exact rfl
 |cons _ ks a=>exact a
theorem aad(n:∀k∈ks,Nd R k)(m:ks.length<64):Ok (λf=>f.e (.bi .any<|.comp (.call 25 [(.sub (.dw (.v 0) rz)<|.v 7)]) [(.v 7,(.v 2),[])])<|Qm (G R L) t (some<|.ml none<|iv ks) none none) (dj false,Qm (G R L) t (some<|.ml none<|iv ks) none none):=by
 obtain⟨y,h⟩:=xd (j:=7) (cs:=[]) (rs:=(Qm (G R L) t none none none).r) (g:=G R L) (qs:=ks) (out:=[]) (y:=none) (p:=λ_=>true) (F:=λ_=>.tup []) (elt:=.call 25 [(.sub (.dw (.v 0) rz)<|.v 7)]) (by rw[tz,ss];exact Ev m (by decide)) (λ_ _=>d9) λq d _=>by refine nF (n q d) λb a h c=>?_;exact ke 5 [op<|bj (L:=L) h,oc<|c.k25<|G R L]
 rw[Ab,GM]at h;exact pH rfl (mW (t:=.v 7) (s:=Qm (G R L) t (some<|.ml none<|iv ks) none none) (i:=2) (tg:=none) (l:=iv ks) rfl rfl h)<|mI (bI (f:=boolsOf) rfl<|Kd (t:=none)) (by rw[TV])
def Sz(R:List PV)(q:Nat):Int:=((R[q]?.bind PV.lD).bind λl=>l.head?.bind PV.int?).getD 0
theorem aac(w:∀k∈ks,Nd R k)(u:ks.length<64):∃b,Ok (λf=>f.e (.bi .tuple<|.bi .sorted<|.comp (.sub (.sub (.dw (.v 0) rz)<|.v 8) bJ) [(.v 8,(.v 2),[(.cmp .Eq (.sub (.sub (.dw (.v 0) rz)<|.v 8) aH) zW)])])<|Qm (G R L) t (some<|.ml none<|iv ks) none none) (dQ b,Qm (G R L) t (some<|.ml none<|iv ks) none none):=by
 obtain⟨y,h⟩:=xd (j:=8) (cs:=[(.cmp .Eq (.sub (.sub (.dw (.v 0) rz)<|.v 8) aH) zW)]) (rs:=(Qm (G R L) t none none none).r) (g:=G R L) (qs:=ks) (out:=[]) (y:=none) (p:=λq=>decide<|Sz R q=10) (F:=λ_=>.int 0) (elt:=.sub (.sub (.dw (.v 0) rz)<|.v 8) bJ) (by rw[tz,ss];exact Ev u (by decide)) (λq n=>by
   obtain⟨c,a,h,d⟩:=w q n;obtain⟨k,b,e,_⟩:=d.par;subst e;have e:Sz R q=k:=by delta Sz;rw[h];rfl
   exact e▸jk (kb 5 [op (bj (L:=L) h),od,ob (ao (g:=G R L) (i:=k) (j:=10) rfl)])) λq n e=>by
   refine nF (w q n) λc a h d=>?_;obtain⟨k,b,A,z⟩:=d.par;subst A;have x:Sz R q=k:=by delta Sz;rw[h];rfl
   rw[z<|x▸of_decide_eq_true e]at h
   exact ke 5 [op<|bj (L:=L) h]
 rw[GM]at h;have m:(ks.filter λq=>decide<|Sz R q=10).length<64:=ac (aT _ _) u
 revert h m;generalize(ks.filter λq=>decide<|Sz R q=10)=o
 intro h m;exact⟨_,pH rfl (pH (y:=.ml none<|(nI<|o.map λ_=>0).map .int) rfl (mW (t:=.v 8) (s:=Qm (G R L) t (some<|.ml none<|iv ks) none none) (i:=2) (tg:=none) (l:=iv ks) rfl rfl h)<|show(intsOf<|o.map λ_=>PV.int 0).bind _=_ from bI NH<|if_pos (by rw[im];exact m)) rfl⟩
theorem SQ(j:Tr R t n)(i:n<64):∃b,ai 29 [ak 0,ae t] (G R L) (dj b) [none,none]<|G R L:=by
 refine eV (Fg (L:=L) j i) λks e f d=>?_;obtain⟨c,k⟩:=aac (L:=L) (t:=t) f d;have h:=congrArg some<|decide_eq_false<|eQ.mpr<|Do t
 have a:ai 28 [ak 0,ae t] (G R L) (dQ c) [none,none] (G R L):=kf 20 [ob h,oc e,ox<|aad (L:=L) (t:=t) f d,od,ox k]
 exact⟨decide<|(0:Int)<(c.length:Nat),kf 20 [oc a,od,od]⟩
theorem Qa(c:Tr R t n)(i:n<64):ai 31 [ak 10,ae t] (G R L) (ae t) [none,none] (G R L):=by
 refine sA λC d=>?_;obtain⟨b,e⟩:=SQ (L:=L) c i;obtain⟨h,f,_⟩:=c;refine nF f.par λk l j _=>?_;subst j;have a:aS (G R L) .NotIn (ae k) (dQ [.int 11,.int 12])=some (!decide (k=11\/k=12)):=mI (rO (g:=G R L) k 11 12) rfl;refine d ?_;induction b with
 |false=>exact kf 20 [oc<|cQ (G R L) (.int t)<|.aZ 10,oc e,od]
 |true=>
  induction q:decide (k=11\/k=12)with
  |false=>exact kf 20 [oc<|cQ (G R L) (.int t)<|.aZ 10,oc e,od,op<|bj (L:=L) h,od,ob<|a.trans<|congrArg (λb=>some<|!b) q]
  |true=>exact kf 20 [oc<|cQ (G R L) (.int t)<|.aZ 10,oc e,od,op<|bj (L:=L) h,od,ob<|a.trans<|congrArg (λb=>some<|!b) q]
end
noncomputable def eN(t:Nat×Nat):PV:=.tup [.int t.1,.int t.2]
def ab(ts:List (Nat×Nat)):List PV:=ts.map eN
noncomputable def aY(a:List Nat):Nat->Int->List Nat->Int
 |_,f,[]=>f
 |i,f,s::l=>aY a (i+1) (bif decide (s∈a)then i else f) l
section
variable{R:List PV} {L:List GO} {g:List GO} {ts:List (Nat×Nat)} {ms:List Nat}
theorem aC:(ab ts).length=ts.length:=im _
theorem gz{td}(h:ts=td++t::tr):(ab ts)[td.length]?=some (eN t):=by delta ab;rw[H1,h,Fk<|v6 _,gX];rfl
def M5(g:List GO)(ts:List (Nat×Nat))(ms:List Nat)(f:Int)(o:Option Nat):St:=⟨[some<|.ml (some 0)<|ab ts,some<|dQ<|iv ms,some<|ae f,on o],g⟩
theorem Ip:∀{td f o},ts=td++tr->∃a,Ok (λF=>bb (forTurn F (.v 3)<|lb f4 1) (iv<|IN td.length tr.length)<|M5 g ts ms f o) (none,M5 g ts ms (aY ms td.length f<|tr.map py) a):=by
 induction tr with
 |nil=>exact@λ_ _ o _=>⟨o,cT⟩
 |cons t tr d=>
  intro td f o h;have b:=bI (fU<|gz h)<|gz h
  have c:=t4 (g:=g) (l:=ms) (k:=t.2);have i:ts=(td++[t])++tr:=by rw[h,sK];rfl
  obtain⟨a,e⟩:=d (td:=td++[t]) (f:=bif decide (t.2∈ms)then td.length else f) (o:=some td.length) i;rw[ch]at e;refine⟨a,aQ (l:=iv<|IN (td.length+1) tr.length) ?_ e⟩
  induction q:decide (t.2∈ms)with
  |true=>exact kt 9 [op b,od,ob<|c.trans<|congrArg some q]
  |false=>exact kt 9 [op b,od,ob<|c.trans<|congrArg some q]
theorem w':uK g .len (.ml o<|ab ts)=some (ae (ts.length:Nat)):=congrArg (λn:Nat=>some<|RV.v<|.int n) aC
theorem mc(c:ts.length<=10):ai 4 [.ml (some 0)<|ab ts,dQ<|iv ms] g (ae<|aY ms 0 (-1)<|ts.map py) [some<|.ml (some 0)<|ab ts,none] g:=by
 refine fN (Ip (g:=g) (ms:=ms) (ts:=ts) (tr:=ts) (td:=[]) (f:= -1) (o:=none) rfl) λo e=>?_;have a:Ok (λf=>f.e (.bi .range<|.bi .len<|.v 0)<|M5 g ts ms (-1) none) (.v<|.iH (ts.length:Nat),M5 g ts ms (-1) none):=ke 5 [ov<|w' (g:=g) (ts:=ts) (o:=some 0),ov<|fH (g:=g) c]
 exact kf 20 [os<|ka (t:=.v 3) (b:=lb f4 1) a dt<|cz (src:=.l _)<|WP▸e]
abbrev EL(R:List PV)(ts a:List (Nat×Nat)):Prop:=bc (λt e=>KM R e.1 t.1/\t.2=e.2) ts a
theorem EL.up (h:EL R ts u) (g:dU R c S):EL S ts u:=by
 induction h with
 |nil=>exact .nil
 |cons h _ q=>exact .cons ⟨g.km h.1,h.2⟩ q
theorem EL.snoc (h:EL R q E) (C:KM R e.1 u.1) (D:u.2=e.2):EL R (q++[u]) (E++[e]):=by
 induction h with
 |nil=>exact .cons ⟨C,D⟩ .nil
 |cons h _ z=>exact .cons h z
noncomputable def bX(a:Int):Nat->List (Nat×Nat)->List (Nat×Nat)
 |_,[]=>[]
 |i,e::l=>(bif co e.2 1&&decide ((i:Int)<a)then(au<|orM [e.1,512],0)else e)::bX a (i+1) l
def E3(g:List GO)(ts:List (Nat×Nat))(a:Int)(us:List (Nat×Nat))(d c b:Option RV):St:=⟨[some<|ak 0,some<|.ml (some 1)<|ab ts,some<|ae a,some<|.ml none<|ab us,d,c,b],g⟩
inductive Zg(R:List PV)(L:List GO)(ts:List (Nat×Nat))(a:Int)(c:Nat)(F:iU->Option (Option Fl×St))(d:List (Nat×Nat)):Prop
 |mk (S:List PV) (b:List (Nat×Nat)) (j i f:Option RV) (e:Ok F (none,E3 (G S L) ts a b j i f)) (g:dU R c S) (h:EL S b d):Zg R L ts a c F d
theorem lg(h:s.get i=some (.ml none<|ab us))(b:us.length<az)(a:(Op.pl i).store s (.ml none<|ab<|us++[x])=some s'):uJ s .append (.pl i) [eN x]=some (.v .none,s'):=eU h (aC▸b) ((show ab us++[eN x]=ab (us++[x]) by delta ab;rw[AC];rfl)▸a)
theorem Mn{last tr}:∀{td us d eu S o4 o5 o6},ts=td++tr->Tb S->EL S tr d->EL S us eu->us.length+tr.length<=10->S.length+tr.length<az->Zg S L ts last tr.length (λF=>bb (forTurn F (.v 4)<|lb f5 2) (iv<|IN td.length tr.length)<|E3 (G S L) ts last us o4 o5 o6) (eu++bX last td.length d):=by
 induction tr with
 |nil=>intro td us d eu S o4 o5 o6 _ _ k r _ _;cases k;exact⟨S,us,o4,o5,o6,cT,.refl,by rw[show bX last td.length []=[] from rfl,u8];exact r⟩
 |cons t tr N=>
 intro td us d eu S o4 o5 o6 h E k r C D;cases k with
 | @cons _ e _ d f k=>
  have q:=bI (fU<|gz h)<|gz h
  have U:ts=(td++[t])++tr:=by rw[h,sK];rfl
  have p:us.length<az:=ac (am (pp _ _) C) (by decide)
  have w:us.length+1+tr.length<=10:=am (EQ (AT ..)) C;have b:aS (G S L) .Eq (ae (t.2:Int)) (ae (1:Nat))=some (co e.2 1):=f.2▸eT;have m:aS (G S L) .Lt (ae (td.length:Int)) (ae last)=some (decide<|(td.length:Int)<last):=rfl
  have a:∀{j:List PV}{c:Nat}{u x:Nat×Nat},c<=1->dU S c j->KM j x.1 u.1->u.2=x.2->oF (.v 4) (lb f5 2) (.int (td.length:Nat)) (E3 (G S L) ts last us o4 o5 o6) (E3 (G j L) ts last (us++[u]) (ni td.length) (ni t.1)<|ni t.2)->Zg S L ts last (tr.length+1) (λF=>bb (forTurn F (.v 4)<|lb f5 2) (iv<|IN td.length<|tr.length+1)<|E3 (G S L) ts last us o4 o5 o6) (eu++x::bX last (td.length+1) d):=λl g P Q H=>by
   obtain⟨V,o,M,J,I,n,T,y⟩:=N (td:=td++[t]) U (g.tb E) (EL.up k g) (EL.snoc (EL.up r g) P Q) (by rw[ch];exact w)<|ac (am (lf (am g.len<|db l _) _)<|EQ (AT ..)) D
   rw[ch]at n y;refine⟨V,o,M,J,I,aQ H n,(g.trans T).up<|am (lf l _)<|EQ (wp ..),?_⟩
   rw[sK]at y;exact y
  show Zg S L ts last (tr.length+1) _ (eu++((bif co e.2 1&&decide ((td.length:Int)<last)then(au<|orM [e.1,512],0)else e)::bX last (td.length+1) d))
  induction A:co e.2 1 with
  |false=>rw[A]at b;exact a (Rs _) .refl f.1 f.2<|kt 9 [op q,ob b,om<|lg (s:=E3 (G S L) ts last us (ni td.length) (ni t.1)<|ni t.2) (i:=3) (us:=us) (x:=t) rfl p (s':=E3 (G S L) ts last (us++[t]) (ni td.length) (ni t.1)<|ni t.2) rfl]
  |true=>
   rw[A]at b;induction z:decide ((td.length:Int)<last)with
   |false=>rw[z]at m;exact a (Rs _) .refl f.1 f.2<|kt 9 [op q,ob b,ob m,om<|lg (s:=E3 (G S L) ts last us (ni td.length) (ni t.1)<|ni t.2) (i:=3) (us:=us) (x:=t) rfl p (s':=E3 (G S L) ts last (us++[t]) (ni td.length) (ni t.1)<|ni t.2) rfl]
   |true=>
    rw[z]at m;obtain⟨v,j,n,g,O⟩:=P9 E (L:=L) f.1<|ac (pp _ _) D
    exact a (u:=(v,0)) (x:=(au<|orM [e.1,512],0)) (v6 _) g O rfl<|kt 9 [op q,ob b,ob m,oc n,om<|lg (s:=E3 (G j L) ts last us (ni td.length) (ni t.1)<|ni t.2) (i:=3) (us:=us) (x:=(v,0)) rfl p (s':=E3 (G j L) ts last (us++[(v,0)]) (ni td.length) (ni t.1)<|ni t.2) rfl]
end
noncomputable def dE:Nat->Int->List Nat->Int
 |_,f,[]=>f
 |i,f,s::l=>dE (i+1) (bif decide (f<0)&&co s 2 then i else f) l
def eX(e:Nat×Nat):Nat:=bif co e.2 1 then au (orM [e.1,512])else e.1
inductive T1(b:Nat)(i:List RV)(f:List (Option RV))(R:List PV)(L:List GO)(c:Nat)(d:List (Nat×Nat)):Prop
 |mk (S:List PV) (a:List (Nat×Nat)) (e:ai b i (G R L) (.ml none<|ab a) f (G S L)) (g:dU R c S) (h:EL S a d):T1 b i f R L c d
section
variable{R:List PV} {L:List GO} {g:List GO} {ts us:List (Nat×Nat)} {ms:List Nat}
theorem EL.len (h:EL R ts u):ts.length=u.length:=by
 induction h with
 |nil=>rfl
 |cons _ _ q=>exact congrArg dO q
theorem EL.marks (h:EL R ts u):ts.map py=u.map py:=by
 induction h with
 |nil=>rfl
 |cons h _ q=>rw[xL,xL,h.2,q]
theorem SM(k:Tb R)(h:EL R ts c)(a:ts.length<=10)(j:R.length+10<az):T1 5 [ak 0,.ml (some 1)<|ab ts] [none,some<|.ml (some 1)<|ab ts] R L 10 (bX (aY [0] 0 (-1)<|c.map py) 0 c):=by
 obtain⟨S,us,o4,o5,o6,e,g,i⟩:=Mn (L:=L) (ts:=ts) (last:=aY [0] 0 (-1)<|ts.map py) (tr:=ts) (td:=[]) (us:=[]) (eu:=[]) (o4:=none) (o5:=none) (o6:=none) rfl k h .nil (by rw[tz,ss];exact a)<|ac (db a _) j
 have d:Ok (λf=>f.e (.bi .range<|.bi .len<|.v 1)<|E3 (G R L) ts (aY [0] 0 (-1)<|ts.map py) [] none none none) (.v<|.iH (ts.length:Nat),E3 (G R L) ts (aY [0] 0 (-1)<|ts.map py) [] none none none):=ke 5 [ov<|w' (g:=G R L) (ts:=ts) (o:=some 1),ov<|fH (g:=G R L) a]
 refine⟨S,us,kf 20 [oc<|mc (g:=G R L) (ts:=ts) (ms:=[0]) a,os<|ka (t:=.v 4) (b:=lb f5 2) d dt<|cz (src:=.l _)<|WP▸e],g.up a,?_⟩
 refine h.marks▸?_;exact i
theorem Hb{td}(h:us=td++t::a):gy g (.v<|.lst<|ab us) (.int (td.length:Nat))=some (eN t):=bI (fU<|gz h)<|gz h
def EZ(g:List GO)(us:List (Nat×Nat))(a f:Int)(d:Option Nat)(b c o7:Option RV):St:=⟨[some<|ak 0,some<|.v<|.lst<|ab us,some<|ae a,some<|ae f,on d,b,c,o7],g⟩
theorem zB:∀{tr td f o},us=td++tr->∃a,Ok (λF=>bb (forTurn F (.v 4)<|lb f6 1) (iv<|IN td.length tr.length)<|EZ g us last f o none none none) (none,EZ g us last (dE td.length f<|tr.map py) a none none none)
 |[],_,_,o,_=>⟨o,cT⟩
 |t::tr,td,f,o,h=>by
  have c:=Hb (g:=g) h;have b:aS g .Lt (ae f) (ae 0)=some (decide<|f<0):=rfl
  have i:aS g .Eq (ae (t.2:Int)) (ae (2:Nat))=some (co t.2 2):=eT;have j:us=(td++[t])++tr:=by rw[h,sK];rfl
  obtain⟨a,e⟩:=zB (last:=last) (td:=td++[t]) (f:=bif decide (f<0)&&co t.2 2 then td.length else f) (o:=some td.length) j;rw[ch]at e;refine⟨a,aQ (l:=iv<|IN (td.length+1) tr.length) ?_ e⟩
  induction q:decide (f<0)with
  |false=>exact kt 9 [ob<|b.trans<|congrArg some q]
  |true=>
   induction d:co t.2 2 with
   |true=>exact kt 9 [ob<|b.trans<|congrArg some q,op c,od,ob<|i.trans<|congrArg some d]
   |false=>exact kt 9 [ob<|b.trans<|congrArg some q,op c,od,ob<|i.trans<|congrArg some d]
theorem Ds:uK g .len (.v<|.lst<|ab us)=some (ae (us.length:Nat)):=congrArg (λn:Nat=>some<|RV.v<|.int n) aC
theorem VV(c:us.length<=10):∃o,Ok (λF=>cH F (.bB (.v 4) (.bi .range<|.bi .len<|.v 1)<|lb f6 1)<|EZ g us last (-1) none none none none) (.dK,EZ g us last (dE 0 (-1)<|us.map py) o none none none):=by
 refine fN (zB (g:=g) (us:=us) (last:=last) (tr:=us) (td:=[]) (f:= -1) (o:=none) rfl) λo e=>?_;have a:Ok (λf=>f.e (.bi .range<|.bi .len<|.v 1)<|EZ g us last (-1) none none none none) (.v<|.iH (us.length:Nat),EZ g us last (-1) none none none none):=ke 5 [ov<|Ds (g:=g) (us:=us),ov<|fH (g:=g) c]
 exact⟨o,ka (t:=.v 4) (b:=lb f6 1) a dt<|cz (src:=.l _)<|WP▸e⟩
theorem Nw(a:us.length<=10)(h:(decide (dE 0 (-1) (us.map py)<0)||decide (last<=dE 0 (-1) (us.map py)))=true):ai 6 [ak 0,.v<|.lst<|ab us,ae last] g (.v<|.lst<|ab us) [none,none,none] g:=by
 refine fN (VV (g:=g) (last:=last) a) λo e=>?_;induction q:decide (dE 0 (-1) (us.map py)<0)with
 |true=>exact kf 20 [os e,ob (o:=aS g .Lt (ae<|dE 0 (-1)<|us.map py)<|ae 0)<|congrArg some q]
 |false=>rw[q,Os]at h;exact kf 20 [os e,ob (o:=aS g .Lt (ae<|dE 0 (-1)<|us.map py)<|ae 0)<|congrArg some q,ob (o:=aS g .LtE (ae last)<|ae<|dE 0 (-1)<|us.map py)<|congrArg some h]
inductive HdE(R:List PV)(L:List GO)(us:List (Nat×Nat))(a f:Int)(d:Option Nat)(c:Nat)(F:iU->Option (Option Fl×St))(ms:List Nat):Prop
 |mk (S:List PV) (b:List Nat) (i o7:Option RV) (e:Ok F (none,EZ (G S L) us a f d (some<|.ml none<|iv b) i o7)) (g:dU R c S) (h:oL S b ms):HdE R L us a f d c F ms
theorem NR{tr}:∀{vs ms b S o6 o7},Tb S->EL S tr b->oL S vs ms->vs.length+tr.length<=20->S.length+tr.length<az->HdE S L us last f o4 tr.length (λF=>bb (forTurn F (.ns [6,7])<|lb f6 4) (ab tr)<|EZ (G S L) us last f o4 (some<|.ml none<|iv vs) o6 o7) (ms++b.map eX):=by
 induction tr with
 |nil=>intro vs ms b S o6 o7 _ d m _ _;cases d;exact⟨S,vs,o6,o7,cT,.refl,by rw[jq,u8];exact m⟩
 |cons t tr D=>
 intro vs ms b S o6 o7 s d m q r;cases d with
 | @cons _ e _ b n d=>
  have y:vs.length<az:=ac (am (pp _ _) q) (by decide)
  have o:vs.length+1+tr.length<=20:=am (EQ (AT ..)) q;have a:aS (G S L) .Eq (ae (t.2:Int)) (ae (1:Nat))=some (co e.2 1):=n.2▸eT;have w:∀{i:List PV}{c v:Nat},c<=1->dU S c i->KM i (eX e) v->oF (.ns [6,7]) (lb f6 4) (eN t) (EZ (G S L) us last f o4 (some<|.ml none<|iv vs) o6 o7) (EZ (G i L) us last f o4 (some<|.ml none<|iv<|vs++[v]) (ni t.1)<|ni t.2)->HdE S L us last f o4 (tr.length+1) (λF=>bb (forTurn F (.ns [6,7])<|lb f6 4) (ab<|t::tr)<|EZ (G S L) us last f o4 (some<|.ml none<|iv vs) o6 o7) (ms++eX e::b.map eX):=λh g E z=>by
   obtain⟨I,k,C,A,p,H,u⟩:=D (g.tb s) (EL.up d g) (oL.snoc (g.Nq m) E) (ch▸o)<|ac (am (lf (am g.len<|db h _) _)<|EQ (AT ..)) r
   refine⟨I,k,C,A,aQ z p,(g.trans H).up<|am (lf h _)<|EQ (wp ..),?_⟩
   rw[sK]at u;exact u
  have x:∀(S:List PV)(v:Nat),uJ (EZ (G S L) us last f o4 (some<|.ml none<|iv vs) (ni t.1)<|ni t.2) .append (.pl 5) [.int (v:Int)]=some (.v .none,EZ (G S L) us last f o4 (some<|.ml none<|iv<|vs++[v]) (ni t.1)<|ni t.2):=λS v=>eU rfl (by rw[aJ];exact y) (by rw[gF];rfl)
  induction j:co e.2 1 with
  |false=>
   rw[j]at a;have e0:eX e=e.1:=by delta eX;rw[j];rfl
   exact w (Rs _) .refl (e0▸n.1)<|kt 9 [ob a,om<|x S t.1]
  |true=>
   rw[j]at a;have e0:eX e=au (orM [e.1,512]):=by delta eX;rw[j];rfl
   obtain⟨v,i,p,g,l⟩:=P9 s (L:=L) n.1<|ac (pp _ _) r
   exact w (v6 _) g (e0▸l)<|kt 9 [ob a,oc p,om<|x i v]
end
def C1(a b:Nat)(c:List (Nat×Nat)):List (Nat×Nat):=c.take a++((au<|orM<|((c.take<|b+1).drop a).map eX,2)::c.drop (b+1))
section
variable{a:Nat}
theorem EL.take (h:EL R q z):∀n,EL R (q.take n)<|z.take n:=by
 induction h with
 |nil=>exact λn=>by rw[xV];exact .nil
 |cons h t u=>
  intro n;induction n with
  |zero=>exact .nil
  |succ n=>exact .cons h<|u n
theorem EL.drop (h:EL R q z):∀n,EL R (q.drop n)<|z.drop n:=by
 induction h with
 |nil=>exact λn=>by rw[oO];exact .nil
 |cons h t u=>
  intro n;induction n with
  |zero=>exact .cons h t
  |succ n=>exact u n
theorem EL.app (h:EL R u E) (C:EL R q D):EL R (u++q) (E++D):=by
 induction h with
 |nil=>exact C
 |cons h _ z=>exact .cons h z
theorem mC(h:l.length+m.length<=az):hK g .Add (.ml none l) (.ml none m)=some (.ml none<|l++m):=by show O5 g (.ml none l) (.ml none m)=_;exact bI (x:=l) rfl<|bI (x:=m) rfl<|if_pos ⟨h,rfl⟩
theorem Hq{l:List PV}(d:a<=l.length)(c:b<=l.length):ya g (.v<|.lst l) (some<|.int (a:Int)) (some<|.int (b:Int))=some (.ml none<|(l.take b).drop a):=bI (x:=l) rfl (bI (x:=a) (mI (x:=(a:Int)) rfl<|(eg _ _).trans<|dG d)<|mI (x:=b) (mI (x:=(b:Int)) rfl<|(eg _ _).trans<|dG c) rfl)
theorem Vz{l:List PV}(c:b<=l.length):ya g (.v<|.lst l) none (some<|.int (b:Int))=some (.ml none<|l.take b):=bI (x:=l) rfl (bI (x:=0) rfl<|mI (x:=b) (mI (x:=(b:Int)) rfl<|(eg _ _).trans<|dG c) rfl)
theorem PA{l:List PV}(b:a<=l.length):ya g (.v<|.lst l) (some<|.int (a:Int)) none=some (.ml none<|l.drop a):=by
 refine bI (x:=l) rfl<|bI (x:=a) (mI (x:=(a:Int)) rfl<|(eg _ _).trans<|dG b)<|mI (x:=l.length) rfl ?_
 refine lx▸?_;rfl
theorem mR(n):(ab b).take n=ab (b.take n):=kG.symm
theorem j3(n):(ab b).drop n=ab (b.drop n):=oN.symm
theorem SG(u:Tb R)(h:EL R us w)(e:us.length<=10)(I:dE 0 (-1) (us.map py)=(a:Int))(d:a<b)(t:b<us.length)(s:R.length+30<az)(m:((((w.take<|b+1).drop a).map eX).map af).flatten.length<64):T1 6 [ak 0,.v<|.lst<|ab us,ae b] [none,none,none] R L 11 (C1 a b w):=by
 refine fN (VV (g:=G R L) (last:=(b:Int)) e) λo y=>?_;rw[I]at y;have r:=t;have z:=ck<|Ev d t
 have c:((us.take<|b+1).drop a).length<=10:=am (by rw[eB,cV];exact am (lL _ _)<|eD _ _) e
 obtain⟨S,vs,o6,o7,N,g,H⟩:=NR (L:=L) (us:=us) (last:=(b:Int)) (f:=(a:Int)) (o4:=o) (tr:=(us.take<|b+1).drop a) (vs:=[]) (ms:=[]) (o6:=none) (o7:=none) u ((h.take<|b+1).drop a) .nil (by rw[tz,ss];exact am c (by decide))<|ac (db (am c (by decide)) _) s
 have g:=g.up c;obtain⟨x,i,M,n,F⟩:=jI (g.tb u) (L:=L) (bq.ml<|iv vs) H m<|ac (am g.len<|db (by decide) _) s
 have E:∀g,ya g (.v<|.lst<|ab us) (some<|.int (a:Int)) (some<|.int ((b+1:Nat):Int))=some (.ml none<|ab<|(us.take<|b+1).drop a):=λg=>(Hq (by exact aC▸z)<|aC▸r).trans (by rw[mR,j3])
 have D:∀g,ya g (.v<|.lst<|ab us) none (some<|.int (a:Int))=some (.ml none<|ab<|us.take a):=λg=>(Vz<|aC▸z).trans (by rw[mR])
 have C:∀g,ya g (.v<|.lst<|ab us) (some<|.int ((b+1:Nat):Int)) none=some (.ml none<|ab<|us.drop<|b+1):=λg=>(PA<|aC▸r).trans (by rw[j3])
 have j:=congrArg some<|decide_eq_false<|eQ.mpr<|Do a
 have k:=congrArg some<|decide_eq_false λq=>absurd (jx.mp q)<|ql.mpr d
 have p:(us.take a).length<=10:=am (cV▸eD _ _) e;have ld:(us.drop<|b+1).length<=10:=am (eB▸lL _ _) e
 have O:hK (G i L) .Add (.ml none<|ab<|us.take a) (.ml none<|ab [(x,2)])=some (.ml none<|ab (us.take a)++ab [(x,2)]):=mC (by rw[aC,aC];exact am (lf p 1) (by decide))
 have A:hK (G i L) .Add (.ml none<|ab (us.take a)++ab [(x,2)]) (.ml none<|ab<|us.drop<|b+1)=some (.ml none<|(ab (us.take a)++ab [(x,2)])++ab (us.drop<|b+1)):=mC (by rw[ch,aC,aC,aC];exact am (TE (lf p 1) ld) (by decide))
 have J:(ab (us.take a)++ab [(x,2)])++ab (us.drop<|b+1)=ab (us.take a++(x,2)::us.drop (b+1)):=by delta ab;rw[sK,AC];rfl
 rw[J]at A;refine⟨i,us.take a++(x,2)::us.drop (b+1),kf 20 [os y,ob j,ob k,od,ov<|E<|G R L,ol<|cz (src:=.l _) N,ov<|D<|G S L,oc M,ov O,od,ov<|C<|G i L,ov A],(g.trans n).up<|v6 _,?_⟩
 exact EL.app (EL.up (h.take a)<|(g.trans n))<|.cons ⟨F,rfl⟩<|EL.up (h.drop<|b+1)<|g.trans n
end
inductive LD where
 |arr (m a:Nat)
 |tup (es:List (Nat×Nat)) (a:Nat)
abbrev EX(R:List PV)(ts a:List (Nat×Nat)):Prop:=bc (λt e=>KX R e.1 t.1/\t.2=e.2) ts a
def LK(R:List PV)(t:Nat):LD->Prop
 |.arr m a=>∃u:Nat,KM R m u/\aM (.tup [.int 11,.int (u:Int),.int (a:Int)]) R=some t
 |.tup c a=>∃b,EX R b c/\aM (.tup [.int 12,.tup<|ab b,.int (a:Int)]) R=some t
inductive u7(a:Nat)(d:List RV)(b:List (Option RV))(R:List PV)(L:List GO)(c:Nat)(ld:LD):Prop
 |mk (t:Nat) (S:List PV) (e:ai a d (G R L) (ae t) b (G S L)) (g:dU R c S) (k:LK S t ld):u7 a d b R L c ld
noncomputable def C8(a:List (Nat×Nat)):Bool:=co a.length 1&&(a.head?.any λe=>co e.2 2)
def Iq(a:List (Nat×Nat))(b:Nat):LD:=bif C8 a then .arr ((a.head?.map Pv).getD 0) b else .tup a b
section
variable{g:List GO} {ts:List (Nat×Nat)} {ro:Nat}
theorem zj(a)(ro:Nat):isKey 6 (.tup [.int 12,.tup<|ab a,.int (ro:Int)])=true:=by
 show(isKey 5 (.int 12)&&((ab a).all (isKey 4)&&(isKey 5 (.int (ro:Int))&&true)))=true;rw[bv.mpr λx b=>by obtain⟨t,_,rfl⟩:=to.mp b;rfl]
 rfl
theorem EL.x (h:EL R us es):(∀e∈es,e.1<8192)->EX R us es:=by
 induction h with
 |nil=>exact λ_=>.nil
 |cons h _ u=>exact λq=>.cons ⟨h.1.x<|q _<|.head _,h.2⟩<|u λe m=>q e<|.tail _ m
theorem EX.up (h:EX R q z) (g:dU R c S):EX S q z:=by
 induction h with
 |nil=>exact .nil
 |cons h _ u=>exact .cons ⟨by obtain⟨X,_⟩:=g;exact bz.app h.1,h.2⟩ u
theorem EX.marks (h:EX R ts u):ts.map py=u.map py:=by
 induction h with
 |nil=>rfl
 |cons h _ q=>rw[xL,xL,h.2,q]
theorem W8(c:KM R m u)(d:R.length<az):u7 3 [ak 0,ae u,ae ro] [none,none,none] R L 1 (.arr m ro):=by have a:isKey 6 (.tup [.int 11,.int (u:Int),.int (ro:Int)])=true:=rfl;refine eV (gh (R:=R) a) λX b f e=>?_;exact⟨_,_,kf 20 [oc<|pD (L:=L) a d],b▸.mk X f,u,b▸bz.app c,e⟩
def Zu(g:List GO)(e:List PV)(ro:Nat)(x a:Option RV):St:=⟨[some<|ak 0,some<|dQ e,ni ro,x,a,none,none],g⟩
theorem D4:∀{tr out y5 y6},out.length+tr.length<az->∃c b,Ok (λf=>bb (compTurn f [5,6] (.tup [.v 5,.v 6]) (.ns [5,6]) []) (ab tr) (out,⟨[some<|ak 0,some<|dQ e,ni ro,none,none,y5,y6],g⟩)) (none,(out++ab tr,⟨[some<|ak 0,some<|dQ e,ni ro,none,none,c,b],g⟩))
 |[],out,y5,y6,_=>⟨y5,y6,by rw[show ab []=[] from rfl,u8];exact .pure⟩
 |t::tr,out,y5,y6,j=>by
  have a:=jU j;refine jF (D4 (e:=e) (tr:=tr) (out:=out++[eN t]) (y5:=ni t.1) (y6:=ni t.2) (by exact ch▸a.2.2)) λi d h=>?_
  rw[sK]at h;exact⟨i,d,(fV (s1:=⟨[some<|ak 0,some<|dQ e,ni ro,none,none,ni t.1,ni t.2],g⟩) (s2:=⟨[some<|ak 0,some<|dQ e,ni ro,none,none,ni t.1,ni t.2],g⟩) (s3:=⟨[some<|ak 0,some<|dQ e,ni ro,none,none,ni t.1,ni t.2],g⟩) (y:=.v<|eN t) rfl d9 a.1<|ke 5 []).two h λ_=>dk⟩
theorem r8(a:ts.length<=10):Ok (λf=>f.e (.comp (.tup [.v 5,.v 6]) [(.ns [5,6],.v 1,[])])<|Zu g (ab ts) ro none none) (.ml none<|ab ts,Zu g (ab ts) ro none none):=by
 refine jF (D4 (g:=g) (ro:=ro) (e:=ab ts) (tr:=ts) (out:=[]) (y5:=none) (y6:=none) (by rw[tz,ss];exact ac a (ut ..))) λy5 y6 h=>?_
 exact eH (t:=.ns [5,6]) (i:=1) (y:=.tup<|ab ts) (s:=Zu g (ab ts) ro none none) (src:=.l<|ab ts) rfl rfl h
theorem qz(h:EX R a f)(b:R.length<az):∃(t:Nat)(S:List PV),ai 84 [ak 0,dQ [.int 12,.tup<|ab a,.int (ro:Int)]] (G R L) (ae t) [none,none] (G S L)/\dU R 1 S/\LK S t (.tup f ro):=by
 refine eV (gh (R:=R)<|zj a ro) λX e d c=>?_
 have g:dU R 1 (oe R<|.tup [.int 12,.tup<|ab a,.int (ro:Int)]).2:=e▸.mk X d
 exact⟨_,_,pD (L:=L) (zj a ro) b,g,a,EX.up h g,c⟩
theorem WH(h:EX R ts c)(b:decide (aY [3] 0 (-1) (c.map py)<0)=false)(a:ts.length<=10)(d:R.length<az):u7 7 [ak 0,dQ<|ab ts,ae ro] [none,none,none] R L 1 (.tup c ro):=by refine ju (qz (L:=L) (ro:=ro) h d) λt S e g k=>?_;rw[<-h.marks]at b;exact⟨t,S,kf 20 [ox<|r8 (g:=G R L) (ro:=ro) a,oc<|mc (g:=G R L) (ms:=[3]) a,ob (o:=aS (G R L) .Lt (ae<|aY [3] 0 (-1)<|ts.map py)<|ae 0)<|congrArg some b,od,oc e],g,k⟩
end
def j9(a:List (Nat×Nat)):Int:=aY [2,1] 0 (-1)<|a.map py
def yX(a:List (Nat×Nat)):List (Nat×Nat):=bX (aY [0] 0 (-1)<|a.map py) 0 a
def xp(a:List (Nat×Nat)):Int:=dE 0 (-1)<|(yX a).map py
def Fb(a:List (Nat×Nat)):Bool:=decide (xp a<0)||decide (j9 a<=xp a)
def Pq(a:List (Nat×Nat)):List (Nat×Nat):=bif Fb a then yX a else C1 (xp a).toNat (j9 a).toNat (yX a)
section
variable{g:List GO} {ts us:List (Nat×Nat)} {ro:Nat}
theorem pC:∀{i f},aY ms i f l=f\/∃j,j<l.length/\aY ms i f l=((i+j:Nat):Int):=by
 induction l with
 |nil=>exact@λ_ _=>.inl rfl
 |cons s l a=>
  intro i f;show aY ms (i+1) (bif decide (s∈ms)then i else f) l=f\/_;rcases a (i:=i+1) (f:=bif decide (s∈ms)then i else f)with h|⟨j,b,h⟩
  .induction q:decide (s∈ms)with
   |true=>rw[q]at h;exact .inr ⟨0,wv _,by show aY ms (i+1) (bif decide (s∈ms)then i else f) l=_;rw[q];exact h⟩
   |false=>rw[q]at h;exact .inl<|h
  .exact .inr ⟨j+1,lC b,by show aY ms (i+1) (bif decide (s∈ms)then i else f) l=_;rw[h,wn,wp 1 j]⟩
theorem mU:∀{i},(bX a i l).length=l.length:=by
 induction l with
 |nil=>exact@λ_=>rfl
 |cons _ l b=>exact@λi=>congrArg dO<|b (i:=i+1)
theorem lX:∀{l i},(∀e∈l,e.1<8192)->∀e∈bX a i l,e.1<8192
 |e0::l,i,h,e,b=>(rc.mp b).elim (λq=>by
  rw[q];induction(co e0.2 1&&decide ((i:Int)<a))with
  |true=>exact kg _
  |false=>exact h e0 (.head _)) (lX (λe m=>h e (.tail _ m)) e)
theorem C0(h:∀e∈d,e.1<8192):∀e∈C1 a b d,e.1<8192:=λe c=>(TD.mp c).elim (λm=>h e<|fw m) λm=>(rc.mp m).elim (λq=>q▸kg _) λm=>h e<|nw m
theorem Q7(h:∀e∈a,e.1<8192):∀e∈Pq a,e.1<8192:=by
 delta Pq;induction Fb a with
 |true=>exact lX h
 |false=>exact C0<|lX h
structure Tail(g:List GO)(x:RV)(us:List (Nat×Nat)):Prop where
 len:uK g .len x=some (ae (us.length:Nat))
 sub:∀u l,us=u::l->gy g x (.int 0)=some (eN u)
 tup:uK g .tuple x=some (dQ<|ab us)
theorem LL:Tail g (.ml o<|ab us) us:=⟨w',λu l e=>by subst e;rfl,rfl⟩
theorem G9:Tail g (.v<|.lst<|ab us) us:=⟨Ds,λu l e=>by subst e;rfl,rfl⟩
theorem GZ(b:ts.length<=10)(D:decide (aY [3] 0 (-1) (ts.map py)<0)=true)(w:ai 5 [ak 0,.ml (some 1)<|ab ts] (G R L) (.ml none<|ab us) [none,some<|.ml (some 1)<|ab ts] (G S L))(s:ai 6 [ak 0,.v<|.lst<|ab us,ae<|aY [2,1] 0 (-1)<|ts.map py] (G S L) x [none,none,none] (G a L)) (tl:∀g,Tail g x m) (q:EL a m i) (z:∀e∈i,e.1<8192) (g:dU R c a) (C:R.length+c<az):u7 7 [ak 0,dQ<|ab ts,ae ro] [none,none,none] R L (c+1) (Iq i ro):=by
 have f:=ac g.len C;have h:aS (G a L) .Eq (ae (m.length:Nat)) (ae (1:Nat))=some (co i.length 1):=q.len▸eT;have d:=congrArg some D;delta Iq C8;induction p:co i.length 1 with
 |false=>rw[p]at h;refine ju (qz (L:=L) (ro:=ro) (q.x z) f) λt l e j k=>?_;exact⟨t,l,kf 20 [ox<|r8 (g:=G R L) (ro:=ro) b,oc<|mc (g:=G R L) (ms:=[3]) b,ob d,oc<|mc (g:=G R L) (ms:=[2,1]) b,oc w,oc s,ov (tl<|G a L).len,ob h,ov (tl<|G a L).tup,oc e],g.trans j,k⟩
 |true=>
  replace h:=p▸h;induction q with
  |nil=>exact ff p
  | @cons u e m i r A=>
   have o:=(tl<|G a L).sub u m rfl
   have n:aS (G a L) .Eq (ae (u.2:Int)) (ae (2:Nat))=some (co e.2 2):=r.2▸eT;show u7 _ _ _ _ _ _ (bif true&&co e.2 2 then .arr e.1 ro else .tup (e::i) ro);induction y:co e.2 2 with
   |false=>rw[y]at n;refine ju (qz (L:=L) (ro:=ro) (EL.x (.cons r A) z) f) λt l e j k=>?_;exact⟨t,l,kf 20 [ox<|r8 (g:=G R L) (ro:=ro) b,oc<|mc (g:=G R L) (ms:=[3]) b,ob d,oc<|mc (g:=G R L) (ms:=[2,1]) b,oc w,oc s,ov (tl<|G a L).len,ob h,op o,od,ob n,ov (tl<|G a L).tup,oc e],g.trans j,k⟩
   |true=>rw[y]at n;obtain⟨t,l,e,j,k⟩:=W8 (L:=L) (ro:=ro) r.1 f;exact⟨t,l,kf 20 [ox<|r8 (g:=G R L) (ro:=ro) b,oc<|mc (g:=G R L) (ms:=[3]) b,ob d,oc<|mc (g:=G R L) (ms:=[2,1]) b,oc w,oc s,ov (tl<|G a L).len,ob h,op o,od,ob n,op o,od,oc e],g.trans j,k⟩
theorem Z5(E:Tb R)(h:EL R ts c)(D:∀e∈c,e.1<8192)(O:decide (aY [3] 0 (-1) (c.map py)<0)=true)(o:ts.length<=10)(p:R.length+50<az)(u:Fb c=false->(((((yX c).take<|(j9 c).toNat+1).drop (xp c).toNat).map eX).map af).flatten.length<64):u7 7 [ak 0,dQ<|ab ts,ae ro] [none,none,none] R L 22 (Iq (Pq c) ro):=by
 obtain⟨S,us,I,g,m⟩:=SM E h o (L:=L)<|ac (db (by decide) _) p
 have m:EL S us (yX c):=m;have A:=m.marks;have C:us.length=ts.length:=m.len▸h.len▸mU;have d:=C▸o;have tm:=h.marks;have n:=tm▸O;delta Pq;induction q:Fb c with
 |true=>
  have r:ai 6 [ak 0,.v<|.lst<|ab us,ae<|aY [2,1] 0 (-1)<|ts.map py] (G S L) (.v<|.lst<|ab us) [none,none,none] (G S L):=Nw d (by refine A▸tm▸?_;exact q)
  obtain⟨t,y,e,w,k⟩:=GZ (ro:=ro) o n I r (λ_=>G9) m (lX D) g<|ac (db (by decide) _) p
  exact⟨t,y,e,w.up (by decide),k⟩
 |false=>
  have q:=b5.mp q;have f0:=eQ.mp<|of_decide_eq_false q.1
  have x:=Int.not_le.mp<|of_decide_eq_false q.2
  have H:=js f0;have F:=js<|UT<|jO f0 x
  have s:(xp c).toNat<(j9 c).toNat:=aV.mp (by rw[H,F];exact x)
  have N:(j9 c).toNat<us.length:=by
   rcases pC (ms:=[2,1]) (l:=c.map py) (i:=0) (f:= -1)with z|⟨j,M,z⟩
   .have z:j9 c= -1:=z;exact absurd (jO f0 x) (by rw[z];decide)
   .change j9 c=((0+j:Nat):Int)at z;rw[z,fh,C,h.len,ss];rwa [im]at M
  obtain⟨T,Q,r,P,J⟩:=SG (L:=L) (g.tb E) m d (a:=(xp c).toNat) (b:=(j9 c).toNat) (by rw[A,H];rfl) s N (ac (am (lf g.len 30) (by rw[wn];exact db (by decide) _)) p)<|u<|b5.mpr q
  rw[F,show j9 c=aY [2,1] 0 (-1) (ts.map py) from congrArg (aY [2,1] 0 (-1)) tm.symm]at r;obtain⟨t,y,e,w,k⟩:=GZ (ro:=ro) o n I r (λ_=>LL) J (C0<|lX D) (g.trans P)<|ac (db (by decide) _) p
  exact⟨t,y,e,w.up<|v6 _,k⟩
end
inductive SD where
 |lst (d:LD)
 |yT
 |meet (m:Nat)
 |any
 |atom (q:Nat)
def SK(R:List PV)(t:Nat):SD->Prop
 |.lst d=>LK R t d
 |.yT=>t=16
 |.meet m=>∃u:Nat,LK R u (.arr m 0)/\aM (.tup [.int 7,.tup<|iv [u,22]]) R=some t
 |.any=>t=0
 |.atom q=>t=q/\q∈[17,8,9]
noncomputable def HX:SD->Bool
 |.lst (.arr m _)=>SL m 8192
 |.lst (.tup a _)=>bx a.length 10
 |.meet m=>SL m 8192
 |_=>true
noncomputable def cutD:SD->List (Nat×Nat)
 |.lst (.arr m _)=>[(m,2)]
 |.lst (.tup a _)=>a
 |.yT=>[(8192,3)]
 |.meet m=>[(m,2)]
 |.any=>[(2048,2)]
 |.atom _=>[(4096,2)]
theorem HR(n)(X)(L):([16,17,8,9,22].map λ(a:Nat)=>((ev FT CT<|n+30).call 87 [ak 0,ae a]<|G (B++X) L,(ev FT CT<|n+30).call 33 [ak 0,ae a]<|G (B++X) L))=[16,17,8,9,22].map λ(a:Nat)=>(some (dj<|co a 16,[none,none],G (B++X) L),some (ae a,[none,none],G (B++X) L)):=by kernel_rfl
theorem Ow(n)(X)(L):([(0,(0,2)),(16,(16,3)),(17,(1,2)),(8,(1,2)),(9,(1,2))].map λ(a:Nat×Nat×Nat)=>(ev FT CT<|n+40).call 34 [ak 0,.v<|eN (a.1,3)]<|G (B++X) L)=[(0,(0,2)),(16,(16,3)),(17,(1,2)),(8,(1,2)),(9,(1,2))].map λ(a:Nat×Nat×Nat)=>some (.ml none [eN a.2],[none,none],G (B++X) L):=by kernel_rfl
section
variable{g:List GO} {t:Nat}
theorem EX.len {ts} (h:EX R ts u):ts.length=u.length:=by
 induction h with
 |nil=>rfl
 |cons _ _ q=>exact congrArg dO q
theorem Ox{j}{rs:List (Option RV)}{l}:∀{out y},j<rs.length->out.length+l.length<az->∃b,Ok (λf=>bb (compTurn f [j] (.v j) (.v j) []) l (out,⟨rs.set j y,g⟩)) (none,(out++l,⟨rs.set j b,g⟩)):=by
 induction l with
 |nil=>exact@λout y _ _=>⟨y,by rw[u8];exact .pure⟩
 |cons u l d=>
  intro out y c e;have a:=jU e;obtain⟨b,h⟩:=d (out:=out++[u]) (y:=some<|.v u) c (by rw[ch];exact a.2.2)
  rw[sK]at h;exact⟨b,(fV (s1:=⟨rs.set j (some (.v u)),g⟩) (s2:=⟨rs.set j (some (.v u)),g⟩) (s3:=⟨rs.set j (some (.v u)),g⟩) (y:=.v u) (by show some (St.mk ((rs.set j y).set j _) g)=_;rw[Ah]) d9 a.1 (Ok.of 1 λn=>Qs ((T0 c)))).two h λ_=>dk⟩
theorem SJ(a:Tb R)(h:t∈[16,17,8,9,22]):ai 87 [ak 0,ae t] (G R L) (dj<|co t 16) [none,none] (G R L):=by obtain⟨X,rfl⟩:=a;exact Aq λn=>dg (n+30)▸congrArg Pv (ww.mp (HR n X L) t h)
theorem Bv(h:R[t]?=some (.tup<|.int 11::a)):ai 87 [ak 0,ae t] (G R L) (dj false) [none,none] (G R L):=kf 20 [op<|bj (L:=L) h]
theorem WX(h:R[t]?=some (.tup<|.int k::b))(a:decide (k=7)=false):ai 33 [ak 0,ae t] (G R L) (ae t) [none,none] (G R L):=kf 20 [op<|bj (L:=L) h,od,ob<|ao (g:=G R L) a]
noncomputable def opB:List Sm:=[.aN (.call 87 [.v 0,.v 3]) [.ret<|.c<|.bool true] []]
def YL(g:List GO)(t u:Nat)(o:Option RV):St:=⟨[some<|ak 0,ni t,some<|dQ [.int 7,.tup<|iv [u,22]],o,none,none],g⟩
def lpB:List Sm:=[.aN (.cmp .In (.sub (.sub (.dw (.v 0) rz)<|.v 3) aH)<|.tup [rT,uu]) [.ret<|.v 3] []]
def YO(g:List GO)(t u:Nat)(o:Option RV):St:=⟨[some<|ak 0,ni t,some<|dQ [.int 7,.tup<|iv [u,22]],o],g⟩
theorem WW(j:Tb R)(a:LK R u (.arr m 0))(h:aM (.tup [.int 7,.tup<|iv [u,22]]) R=some t):ai 33 [ak 0,ae t] (G R L) (ae u) [none,none] (G R L):=by
 refine aO a λv p i=>?_;have a:=aK i;have c:=aK h;have o:oF (.v 3) opB (.int (u:Int)) (YL (G R L) t u none) (YL (G R L) t u<|ni u):=kt 9 [oc<|Bv (L:=L) a,od]
 have n:oF (.v 3) opB (.int ((22:Nat):Int)) (YL (G R L) t u<|ni u) (YL (G R L) t u<|ni 22):=kt 9 [oc<|SJ (L:=L) j (t:=22) (by decide),od]
 have e:=cz (src:=.l<|iv [u,22])<|aQ o<|aQ n cT
 have b:ai 30 [ak 0,ae t] (G R L) (dj false) [none,none] (G R L):=kf 20 [op<|bj (L:=L) c,od,od,od,od,od,od,od,ol e]
 have k:Ok (λf=>forTurn f (.v 3) lpB (.int (u:Int))<|YO (G R L) t u none) (some<|.ret<|ae u,YO (G R L) t u<|ni u):=Sv 9 [op<|bj (L:=L) a]
 have d:Kl (.v 3) lpB (.l<|iv [u,22]) (YO (G R L) t u none) (.ret<|ae u) (YO (G R L) t u<|ni u):=Ok.map (kU k) λ_=>rfl
 exact kf 20 [op<|bj (L:=L) c,od,od,oc b,od,od,ol d]
theorem SU(C:Tb R)(h:SK R t d)(z:HX d=true):∃b,ai 34 [ak 0,.v<|eN (t,3)] (G R L) (.ml none<|ab b) [none,none] (G R L)/\EX R b (cutD d):=by
 have i:∀{a c:Nat×Nat},(a.1,c)∈[(0,(0,2)),(16,(16,3)),(17,(1,2)),(8,(1,2)),(9,(1,2))]->ai 34 [ak 0,.v<|eN (a.1,3)] (G R L) (.ml none<|ab [c]) [none,none] (G R L):=λ{a c} m=>by obtain⟨X,rfl⟩:=C;exact Aq λn=>dg (n+40)▸ww.mp (Ow n X L) (a.1,c) m
 induction d with
 |lst d=>
  induction d with
  |arr m o=>refine aO h λu k r=>?_;have p:=aK r;exact⟨[(u,2)],kf 20 [od,oc<|WX (L:=L) p rfl,op<|bj (L:=L) p,od,od,od],.cons ⟨k.x<|io z,rfl⟩ .nil⟩
  |tup I o=>
   refine aO h λb k r=>?_;have p:=aK r;have D:b.length<=10:=(EX.len k)▸io z;obtain⟨y,e⟩:=Ox (g:=G R L) (j:=3) (rs:=[some<|ak 0,some<|.v<|eN (t,3),some<|dQ [.int 12,.tup<|ab b,.int (o:Int)],none]) (l:=ab b) (out:=[]) (y:=none) (Ix 3) (by rw[tz,ss,aC];exact ac D (by decide))
   have H:Ok (λf=>f.e (.comp (.v 3) [(.v 3,.sub (.v 2) bJ,[])]) ⟨[some<|ak 0,some<|.v<|eN (t,3),some<|dQ [.int 12,.tup<|ab b,.int (o:Int)],none],G R L⟩) (.ml none<|ab b,⟨[some<|ak 0,some<|.v<|eN (t,3),some<|dQ [.int 12,.tup<|ab b,.int (o:Int)],none],G R L⟩):=fR (t:=.v 3) (x:=dQ<|ab b) (s:=⟨[some<|ak 0,some<|.v<|eN (t,3),some<|dQ [.int 12,.tup<|ab b,.int (o:Int)],none],G R L⟩) (s1:=⟨[some<|ak 0,some<|.v<|eN (t,3),some<|dQ [.int 12,.tup<|ab b,.int (o:Int)],none],G R L⟩) (src:=.l<|ab b) rfl (ke 5 [od]) rfl e
   exact⟨b,kf 20 [od,oc<|WX (L:=L) p rfl,op<|bj (L:=L) p,od,od,od,od,ox H],k⟩
 |yT=>subst h;exact⟨[(16,3)],i (a:=(16,0)) (by decide),.cons ⟨rfl,rfl⟩ .nil⟩
 |meet m=>obtain⟨u,k,r⟩:=h;have E:=WW (L:=L) C k r;obtain⟨v,F,w⟩:=k;exact⟨[(v,2)],kf 20 [od,oc E,op<|bj (L:=L)<|aK w,od,od,od],.cons ⟨F.x<|io z,rfl⟩ .nil⟩
 |any=>subst h;exact⟨[(0,2)],i (a:=(0,0)) (by decide),.cons ⟨KM.x Bq (by decide),rfl⟩ .nil⟩
 |atom q=>
  obtain⟨e,A⟩:=h;subst e;refine⟨[(1,2)],i (a:=(t,0)) ?_,.cons ⟨KM.x IE (by decide),rfl⟩ .nil⟩
  simp only[rc,eA,or_false]at A;rcases A with rfl|rfl|rfl<;>decide
end
inductive SP where
 |one (d:SD)
 |lI (a:List SD)
 |never
 |err
noncomputable def SP.ctorIdx (x:SP):Nat:=x.casesOn (λ_=>0) (λ_=>1) 2 3
set_option genInjectivity true in
inductive SE where
 |k (c s:Nat)
 |sp (p:SP)
noncomputable def SE.ctorIdx (x:SE):Nat:=x.casesOn (λ_ _=>0) λ_=>1
def F5(R:List PV)(t:Nat):Prop:=∃n,n<64/\Tr R t n
def PK(R:List PV)(t:Nat):SP->Prop
 |.one d=>SK R t d/\HX d=true
 |.lI b=>∃(ts:List Nat)(a:Nat->SD),bz R (bK ts) t/\2<=(bK ts).length/\b=ts.map a/\∀q∈ts,SK R q (a q)/\F5 R q/\HX (a q)=true
 |.never=>t=2
 |.err=>t=13
def EK(R:List PV)(t:Nat×Nat):SE->Prop
 |.k c s=>t.2=s/\co s 3=false/\KX R c t.1
 |.sp p=>t.2=3/\PK R t.1 p/\F5 R t.1
abbrev yf(R:List PV)(ts:List (Nat×Nat))(a:List SE):Prop:=bc (EK R) ts a
noncomputable def isBad:SE->Option Nat
 |.sp .never=>some 2
 |.sp .err=>some 13
 |_=>none
section
variable{g:List GO} {t:Nat} {ro:Nat}
theorem De(d:Tb R)(h:p8 R x k)(q:decide (k=1)=false):x≠2/\x≠13:=by
 have c:∀{y:Nat},p8 R y 1->x≠y:=λ{y} f e=>by subst e;obtain⟨_,a⟩:=h;obtain⟨_,b⟩:=f;replace b:=a▸b;cases b;exact ff q.symm
 exact⟨c<|d.kd (i:=2) (by decide+kernel),c<|d.kd (i:=13) (by decide+kernel)⟩
theorem SK.row (u:Tb R) (h:SK R x d):∃k,p8 R x k/\decide (k=6)=false/\x≠2/\x≠13:=by
 have mk:∀{k:Int}{C:List PV},R[x]?=some (.tup<|.int k::C)->decide (k=6)=false->decide (k=1)=false->∃k,p8 R x k/\decide (k=6)=false/\x≠2/\x≠13:=λh a b=>⟨_,⟨_,h⟩,a,De u ⟨_,h⟩ b⟩
 induction d with
 |lst d=>
  induction d with
  |arr=>refine aO h λ_ _ h=>?_;exact mk (aK h) rfl rfl
  |tup=>refine aO h λ_ _ h=>?_;exact mk (aK h) rfl rfl
 |yT=>subst h;exact⟨10,u.kd (by decide+kernel),rfl,by decide,by decide⟩
 |meet=>refine aO h λ_ _ h=>?_;exact mk (aK h) rfl rfl
 |any=>subst h;exact⟨1,u.kd (by decide+kernel),rfl,by decide,by decide⟩
 |atom q=>
  obtain⟨e,z⟩:=h;subst e;simp only[rc,eA,or_false]at z;rcases z with rfl|rfl|rfl
  .exact⟨3,u.kd (by decide+kernel),rfl,by decide,by decide⟩
  .exact⟨2,u.kd (by decide+kernel),rfl,by decide,by decide⟩
  .exact⟨2,u.kd (by decide+kernel),rfl,by decide,by decide⟩
def spS(g:List GO)(x1:PV)(ro:Nat)(a:List (Nat×Nat))(b:Option RV):St:=⟨[some<|ak 10,some<|.v x1,ni ro,some<|ak 0,some<|.ml none<|ab a,b,none,none],g⟩
def rM(t:Nat×Nat):Option RV:=some<|.v<|eN t
theorem mP(h:bz R l x)(a:2<=l.length):R[x]?=some (.tup [.int 6,.tup<|iv l]):=by
 match l,h,a with
 |_::_::_,h,_=>exact aK h
theorem Ho(t)(b:a.length<az):uJ (spS g x1 ro a<|rM t) .append (.pl 4) [eN t]=some (.v .none,spS g x1 ro (a++[t])<|rM t):=lg rfl b rfl
theorem ZE{t}(b:a.length<az)(h:co t.2 3=false):oF (.v 5) (lb (uY 0) 2) (eN t) (spS g x1 ro a c) (spS g x1 ro (a++[t])<|rM t):=kt 9 [od,ob<|(eT (g:=g) (m:=t.2) (k:=3)).trans<|congrArg some h,om<|Ho (g:=g) (ro:=ro) (x1:=x1) t b]
theorem Vx{x}(e:c.length<az)(a:F5 R x)(f:x≠2)(b:x≠13):oF (.v 5) (lb (uY 0) 2) (eN (x,3)) (spS (G R L) x1 ro c h) (spS (G R L) x1 ro (c++[(x,3)])<|rM (x,3)):=by refine aO a λn d a=>?_;exact kt 9 [od,od,od,oc<|Qa (L:=L) a d,od,ob<|ao (g:=G R L)<|jc (k:=2) f,od,ob<|ao (g:=G R L)<|jc (k:=13) b,om<|Ho (g:=G R L) (ro:=ro) (x1:=x1) (x,3) e]
theorem Vy(d:z=2\/z=13)(a:F5 R z):Ok (λf=>forTurn f (.v 5) (lb (uY 0) 2) (eN (z,3))<|spS (G R L) b ro c i) (some<|.ret<|ae (z:Nat),spS (G R L) b ro c<|rM (z,3)):=by
 refine aO a λn h a=>?_;have e:=Qa (L:=L) a h;rcases d with rfl|rfl
 .exact Sv 9 [od,od,od,oc e,od,od,od]
 .exact Sv 9 [od,od,od,oc e,od,od,od,od,od]
theorem s8(D:Tb R)(l:∀us o,Q<|spS (G R L) x1 ro us o)(h:yf R j q):∀{us o5},us.length+j.length<az->match q.findSome? isBad with
 |none=>∃o,Km (.v 5) (lb (uY 0) 2) Q (ab j) (spS (G R L) x1 ro us o5) (none,spS (G R L) x1 ro (us++j) o)
 |some z=>∃f o,Km (.v 5) (lb (uY 0) 2) Q (ab j) (spS (G R L) x1 ro us o5) (some<|.ret<|ae (z:Nat),spS (G R L) x1 ro f o):=by
 induction h with
 |nil=>exact λ{us o5} _=>⟨o5,by rw[u8];exact .nil<|l us o5⟩
 | @cons t e j q C _ F=>
  intro us o5 H;have a:=jU H;have y:isBad e=none->oF (.v 5) (lb (uY 0) 2) (eN t) (spS (G R L) x1 ro us o5) (spS (G R L) x1 ro (us++[t])<|rM t)->match(e::q).findSome? isBad with
   |none=>∃o,Km (.v 5) (lb (uY 0) 2) Q (ab<|t::j) (spS (G R L) x1 ro us o5) (none,spS (G R L) x1 ro (us++t::j) o)
   |some z=>∃f o,Km (.v 5) (lb (uY 0) 2) Q (ab<|t::j) (spS (G R L) x1 ro us o5) (some<|.ret<|ae (z:Nat),spS (G R L) x1 ro f o):=λI A=>by
   have i:=F (us:=us++[t]) (o5:=rM t) (by rw[ch];exact a.2.2)
   refine oK▸I▸?_;revert i;induction q.findSome? isBad with
   |none=>exact λr=>fN r λo i=>⟨o,.cons (l us o5) A (by rw[sK]at i;exact i)⟩
   |some z=>exact λr=>jF r λf o i=>⟨f,o,.cons (l us o5) A i⟩
  obtain⟨x,s⟩:=t;induction e with
  |k c J=>refine Ao C λw b _=>?_;exact y rfl<|ZE a.1<|w▸b
  |sp p=>
   obtain⟨w,b,m⟩:=C;subst w;induction p with
   |one d=>refine Lh (b.1.row D) λ_ _ _ E u=>?_;exact y rfl<|Vx a.1 m E u
   |lI M=>refine ju b λts _ h b _=>?_;have n:=De D ⟨_,mP h b⟩ rfl;exact y rfl<|Vx a.1 m n.1 n.2
   |never=>have b:=b;subst b;exact⟨us,_,.stop (l us o5)<|Vy (.inl rfl) m⟩
   |err=>have b:=b;subst b;exact⟨us,_,.stop (l us o5)<|Vy (.inr rfl) m⟩
noncomputable def AL:Nat->List SE->Option Nat
 |_,[]=>none
 |i,.sp (.lI _)::_=>some i
 |i,_::l=>AL (i+1) l
end
section
variable{g:List GO} {ts:List (Nat×Nat)} {es:List SE}
def Cu(g:List GO)(ts:List (Nat×Nat))(o:Option Nat):St:=⟨[some<|ak 0,some<|.ml (some 1)<|ab ts,on o],g⟩
theorem Lq(H:Tb R){b f}(h:yf R b f):∀{td o},ts=td++b->f.findSome? isBad=none->match AL td.length f with
 |none=>∃a,Ok (λF=>bb (forTurn F (.v 2)<|lb N2 0) (iv<|IN td.length b.length)<|Cu (G R L) ts o) (none,Cu (G R L) ts a)
 |some p=>∃a,Ok (λF=>bb (forTurn F (.v 2)<|lb N2 0) (iv<|IN td.length b.length)<|Cu (G R L) ts o) (some<|.ret<|ae (p:Nat),Cu (G R L) ts a):=by
 induction h with
 |nil=>exact λ{td o} _ _=>⟨o,cT⟩
 | @cons t e b f n _ D=>
  intro td o h q;have l:=bI (fU<|gz h)<|gz h
  have I:ts=(td++[t])++b:=by rw[h,sK];rfl
  have A:isBad e=none->AL td.length (e::f)=AL (td.length+1) f->oF (.v 2) (lb N2 0) (.int (td.length:Nat)) (Cu (G R L) ts o) (Cu (G R L) ts<|some td.length)->match AL td.length (e::f)with
   |none=>∃a,Ok (λF=>bb (forTurn F (.v 2)<|lb N2 0) (iv<|IN td.length<|b.length+1)<|Cu (G R L) ts o) (none,Cu (G R L) ts a)
   |some p=>∃a,Ok (λF=>bb (forTurn F (.v 2)<|lb N2 0) (iv<|IN td.length<|b.length+1)<|Cu (G R L) ts o) (some<|.ret<|ae (p:Nat),Cu (G R L) ts a):=λn E y=>by
   rw[oK,n]at q;have i:=D (td:=td++[t]) (o:=some td.length) I q;replace i:=ch▸i;refine E▸?_;revert i;induction AL (td.length+1) f with
   |none=>exact λr=>fN r λa i=>⟨a,aQ y i⟩
   |some z=>exact λr=>fN r λa i=>⟨a,aQ y i⟩
  obtain⟨x,s⟩:=t;induction e with
  |k c N=>refine Ao n λw j _=>?_;exact A rfl rfl<|kt 9 [op l,od,ob<|(eT (g:=G R L) (m:=s) (k:=3)).trans<|congrArg some<|w▸j]
  |sp p=>
   obtain⟨w,j,_⟩:=n;subst w;induction p with
   |one d=>obtain⟨k,⟨J,u⟩,C,_⟩:=j.1.row H;exact A rfl rfl<|kt 9 [op l,od,od,op l,od,op<|bj (L:=L) u,od,ob<|ao (g:=G R L) C]
   |lI O=>refine ju j λM _ h j _=>?_;have u:=mP h j;exact⟨some td.length,kU<|Sv 9 [op l,od,od,op l,od,op<|bj (L:=L) u,od,od]⟩
   |never=>exact nE<|q.symm.trans rfl
   |err=>exact nE<|q.symm.trans rfl
def Uq(es:List SE):Int:=match AL 0 es with
 |none=> -1
 |some p=>(p:Int)
theorem WE(m:Tb R)(h:yf R ts es)(k:es.findSome? isBad=none)(j:ts.length<=10):ai 32 [ak 0,.ml (some 1)<|ab ts] (G R L) (ae<|Uq es) [none,some<|.ml (some 1)<|ab ts] (G R L):=by
 have i:=Lq (L:=L) m h (td:=[]) (o:=none) rfl k;have d:Ok (λf=>f.e (.bi .range<|.bi .len<|.v 1)<|Cu (G R L) ts none) (.v<|.iH (ts.length:Nat),Cu (G R L) ts none):=ke 5 [ov<|w' (g:=G R L) (ts:=ts) (o:=some 1),ov<|fH (g:=G R L) j]
 delta Uq;revert i;induction AL 0 es with
 |none=>
  intro⟨c,e⟩;have a:=cz (src:=.l _)<|WP▸e
  exact kf 20 [os<|ka (t:=.v 2) (b:=lb N2 0) d dt a]
 |some p=>
  intro⟨c,e⟩;have a:Kl (.v 2) (lb N2 0) (.l<|iv<|Db ts.length) (Cu (G R L) ts none) (.ret<|ae (p:Nat)) (Cu (G R L) ts c):=Ok.map (WP▸e) λ_=>rfl
  exact kf 20 [os<|ka (t:=.v 2) (b:=lb N2 0) d dt a]
end
noncomputable def tW:SE->Bool
 |.k _ _=>true
 |.sp (.one _)=>true
 |_=>false
def BU:SE->List (Nat×Nat)
 |.k c s=>[(c,s)]
 |.sp (.one d)=>cutD d
 |_=>[]
def rQ(a:List (Nat×Nat)):Bool:=!decide (aY [3] 0 (-1) (a.map py)<0)
def G0(b:Nat)(a:List (Nat×Nat)):LD:=bif rQ a then .tup a b else Iq (Pq a) b
def vr(a:List (Nat×Nat)):Bool:=bx a.length 10&&(rQ a||(a.all (λe=>SL e.1 8192)&&(Fb a||SL (((((yX a).take<|(j9 a).toNat+1).drop (xp a).toNat).map eX).map af).flatten.length 64)))
section
variable{g:List GO} {ro:Nat} {ts us:List (Nat×Nat)}
theorem EX.app (h:EX R us D) (z:EX R q C):EX R (us++q) (D++C):=by
 induction h with
 |nil=>exact z
 |cons h _ u=>exact .cons h u
theorem EX.el {q} (h:EX R us q):(∀e∈q,e.1<8192)->EL R us q:=by
 induction h with
 |nil=>exact λ_=>.nil
 |cons h _ z=>exact λu=>.cons ⟨by have:=h.1;unfold KX at this;rw[BI<|u _<|.head _]at this;exact this,h.2⟩<|z λe m=>u e<|.tail _ m
theorem WG(o:Tb R)(h:EX R us a)(m:vr a=true)(f:R.length+50<az):u7 7 [ak 0,dQ<|ab us,ae ro] [none,none,none] R L 22 (G0 ro a):=by
 refine aE m λr j=>?_;have d:us.length<=10:=(EX.len h)▸io r;delta G0;induction q:rQ a with
 |true=>
  obtain⟨t,S,e,g,k⟩:=WH (L:=L) (ro:=ro) h (bN (b:=decide<|aY [3] 0 (-1) (a.map py)<0) q) d<|ac (pp _ 50) f
  exact⟨t,S,e,g.up<|wv _,k⟩
 |false=>
  rw[q,Os]at j;refine aE j λp i=>?_;have c:∀e∈a,e.1<8192:=λe n=>io<|bv.mp p e n
  have l:decide (aY [3] 0 (-1) (a.map py)<0)=true:=by
   induction z:decide (aY [3] 0 (-1) (a.map py)<0)with
   |true=>rfl
   |false=>delta rQ at q;rw[z]at q;exact ff q.symm
  exact Z5 o (EX.el h c) c l d f λz=>by rw[z,Os]at i;exact io i
def Gj(g:List GO)(a:PV)(ro:Nat)(ts:List (Nat×Nat))(us:List (Nat×Nat))(b:Option RV):St:=⟨[some<|ak 10,some<|.v a,ni ro,some<|ak 0,some<|.v<|.lst<|ab ts,b,some<|ae (-1),some<|.ml none<|ab us],g⟩
theorem P7{g}{l:List PV}(h:l.length<=10):aS g .Gt (ae (l.length:Nat)) (ae 10000)=some false:=congrArg some<|decide_eq_false λq=>absurd (aV.mp q)<|iF.mpr<|am h (ut ..)
theorem Rn{us a}(h:us.length+a.length<=10):uJ (Gj g x1 ro ts us o5) .extend (.pl 7) [.lst<|ab a]=some (.v .none,Gj g x1 ro ts (us++a) o5):=by
 show(if(ab us).length+(ab a).length<=az then((Op.pl 7).store (Gj g x1 ro ts us o5)<|.ml none<|ab us++ab a).map (λb=>(RV.v .none,b))else none)=_
 rw[if_pos (by rw[aC,aC];exact am h (ut ..)),show ab us++ab a=ab (us++a) by delta ab;rw[AC]]
 rfl
theorem Rg{x1}(J:Tb R){w j}(h:yf R w j):∀{us eu o5},j.all tW=true->EX R us eu->us.length+(j.flatMap BU).length<=10->∃a o,Ok (λF=>bb (forTurn F (.v 5)<|lb (uY 0) 6) (ab w)<|Gj (G R L) x1 ro ts us o5) (none,Gj (G R L) x1 ro ts a o)/\EX R a (eu++j.flatMap BU):=by
 induction h with
 |nil=>exact λ{us eu o5} _ z _=>⟨us,o5,cT,by rw[Kz,u8];exact z⟩
 | @cons t e w j C _ H=>
  intro us eu o5 I z q;refine aE (show(tW e&&j.all tW)=true from I) λb A=>?_;replace q:=ch▸dH▸q;have D:∀{n:List (Nat×Nat)},EX R n (BU e)->oF (.v 5) (lb (uY 0) 6) (eN t) (Gj (G R L) x1 ro ts us o5) (Gj (G R L) x1 ro ts (us++n)<|rM t)->∃a o,Ok (λF=>bb (forTurn F (.v 5)<|lb (uY 0) 6) (ab<|t::w)<|Gj (G R L) x1 ro ts us o5) (none,Gj (G R L) x1 ro ts a o)/\EX R a (eu++(e::j).flatMap BU):=λ{n} u E=>by
   refine nF (H (o5:=rM t) A (EX.app z u) (by rw[ch,EX.len u,wn];exact q)) λa o r f=>?_
   rw[sK]at f;exact⟨a,o,aQ E r,by rw[dH];exact f⟩
  obtain⟨x,s⟩:=t;induction e with
  |k c s'=>
   refine Ao C λr f M=>?_;have y:(us++[(x,s)]).length<=10:=by rw[ch];exact am (db (pp 1 _) _) q
   exact D (.cons ⟨M,r⟩ .nil)<|kt 9 [od,ob<|(eT (g:=G R L) (m:=s) (k:=3)).trans<|congrArg some<|r▸f,om<|lg (s:=Gj (G R L) x1 ro ts us<|rM (x,s)) (i:=7) (us:=us) (x:=(x,s)) rfl (ac (am (pp _ _) q) (ut ..)) (s':=Gj (G R L) x1 ro ts (us++[(x,s)])<|rM (x,s)) rfl,od,ob<|P7 (g:=G R L) (l:=ab<|us++[(x,s)]) (by rw[aC];exact y)]
  |sp p=>
   obtain⟨r,f,_⟩:=C;subst r;induction p with
   |one d=>
    refine aO (SU (L:=L) J f.1 f.2) λn N u=>?_;have y:us.length+n.length<=10:=by rw[EX.len u];exact am (db (pp _ _) _) q
    exact D u<|kt 9 [od,od,oc N,om<|Rn (g:=G R L) (x1:=x1) (ro:=ro) (ts:=ts) (o5:=rM (x,3)) y,od,ob<|P7 (g:=G R L) (l:=ab<|us++n) (by rw[aC,ch];exact y)]
   |lI=>exact ff b
   |never=>exact ff b
   |err=>exact ff b
end
theorem Wz(j:FT[i]?=some fd){g}(k:pQ c st h=some z)(d)(l)(m:(decide (c.length<=fd.np)&&decide (fd.np<=c.length+fd.kI.length))=true:=by rfl) (e:((wk d).iT fd.body ⟨c.map some++(fd.kI.drop<|fd.kI.length+c.length - fd.np).map (λx=>some<|.v x)++UF (fd.ns - fd.np) none,g⟩ (l.map Ob.ti) λy _=>y=(h,st))=obs l ((h,st)=(h,st)):=by kernel_rfl):Ok (λf=>f.call i c g) z:=((kl d l e).bind (G:=λ_(y:Fl×St)=>pQ c y.2 y.1) ⟨0,λ_=>k⟩).up λn=>(sq n i fd c g j).trans<|aE m λa b=>if_pos ⟨dT a,dT b⟩
section
variable{g:List GO} {ro:Nat} {ts:List (Nat×Nat)} {xa:RV}
theorem xP(h:bq g 1 xa l)(i:rs[1]?=some (some<|.v xa.eJ))(r)(c:List PV):pQ (.v a::xa::c.map .v) ⟨rs,d⟩ (.ret r)=some (r,none::none::c.map λ_=>none,d):=by
 have e:∀(c:List PV)(k:Nat),ee ⟨rs,d⟩ k (c.map .v)=c.map λ_=>none:=λc=>by
  induction c with
  |nil=>exact λ_=>rfl
  |cons b c f=>exact λk=>congrArg (none::·)<|f<|k+1
 show some (r,none::ee ⟨rs,d⟩ 1 (xa::c.map .v),d)=_;rw[h.back i,e]
def ZF(g:List GO)(xa:RV)(ro:Nat):List (Option RV):=[some<|ak 10,some xa,ni ro,some<|ak 0,some<|.ml none<|ab [],none,none,none]
theorem Qb(f:FT[fi]?=some (uY j))(l:Tb R)(h:yf R ts m)(d:bq (G R L) 1 xa (ab ts))(k:m.findSome? isBad=some z)(e:ts.length<=10):ai fi [ak 10,xa,ae ro] (G R L) (ae (z:Nat)) [none,none,none] (G R L):=by
 have i:=s8 (L:=L) (ro:=ro) (x1:=xa.eJ) (Q:=λs=>s.g=G R L) l (λ_ _=>rfl) h (us:=[]) (o5:=none) (by rw[tz,ss];exact ac e (by decide))
 rw[k]at i;refine jF i λc o i=>?_;exact Wz f (xP (a:=.aZ 10) d (rs:=(spS (G R L) xa.eJ ro c o).r) rfl (ae (z:Nat)) [.int (ro:Int)]) 20 [os<|ou (t:=.v 5) (b:=lb (uY 0) 2) (i:=1) (rs:=ZF (G R L) xa ro) d rfl i]
theorem Mh{a}:∀{i},a.all tW=true->a.findSome? isBad=none/\AL i a=none:=by
 induction a with
 |nil=>exact@λ_ _=>⟨rfl,rfl⟩
 |cons e a c=>
  exact@λi h=>aE (show(tW e&&a.all tW)=true from h) λb d=>by
   have r:=c (i:=i+1) d;induction e with
   |k=>exact⟨r.1,r.2⟩
   |sp p=>
    induction p with
    |one=>exact⟨r.1,r.2⟩
    |lI=>exact ff b
    |never=>exact ff b
    |err=>exact ff b
theorem Qc(z:FT[E]?=some (uY j))(c:Tb R)(h:yf R ts d)(n:bq (G R L) 1 xa (ab ts))(p:d.all tW=true)(u:ts.length<=10)(q:vr (d.flatMap BU)=true)(A:R.length+50<az):u7 E [ak 10,xa,ae ro] [none,none,none] R L 22 (G0 ro<|d.flatMap BU):=by
 refine sA λC w=>?_;have f:=Mh (i:=0) p;have i:=s8 (L:=L) (ro:=ro) (x1:=xa.eJ) (Q:=λs=>s.g=G R L) c (λ_ _=>rfl) h (us:=[]) (o5:=none) (by rw[tz,ss];exact ac u (by decide))
 rw[f.1]at i;obtain⟨o,i⟩:=i;have m:=WE (L:=L) c h f.1 u;rw[show Uq d= -1 by delta Uq;rw[f.2]]at m
 have e:=aE q λD _=>io D;refine nF (Rg (L:=L) (ro:=ro) (x1:=xa.eJ) (ts:=ts) c h (us:=[]) (eu:=[]) (o5:=o) p .nil (by rw[tz,ss];exact e)) λus x H y=>?_
 obtain⟨t,S,F,g,k⟩:=WG (L:=L) (ro:=ro) c y q A;refine w ?_;exact⟨t,S,Wz z (xP (a:=.aZ 10) n (rs:=(Gj (G S L) xa.eJ ro ts us x).r) rfl (ae t) [.int (ro:Int)]) 20 [os<|ou (t:=.v 5) (b:=lb (uY 0) 2) (i:=1) (rs:=ZF (G R L) xa ro) n rfl i,oc m,od,ol<|cz (src:=.l _) H,od,oc F],g,k⟩
end
inductive UL(R:List PV)(n:Nat)(C:List LD)(t:Nat):Prop
 |mk (ids:List Nat) (a:List LD) (h:bc (LK R) ids a) (b:bz R (bK ids) t) (d:∀x,x∈a↔x∈C) (c:ids.length<=n):UL R n C t
section
variable{R:List PV} {t x n:Nat}
theorem LK.up (h:LK R t d) (g:dU R c S):LK S t d:=by
 induction d with
 |arr m D=>obtain⟨u,q,z⟩:=h;obtain⟨X,_⟩:=g;exact⟨u,bz.app q,kh z⟩
 |tup E D=>obtain⟨C,q,z⟩:=h;exact⟨C,EX.up q g,by obtain⟨X,_⟩:=g;exact kh z⟩
theorem LK.kd (h:LK R t d):∃k:Int,p8 R t k/\([2,3,4,5,8].any λi=>decide<|i=k)=false/\k≠18/\k≠6/\decide (k=1)=false:=by
 induction d with
 |arr=>refine aO h λ_ _ h=>?_;exact⟨11,⟨_,aK h⟩,rfl,by decide,by decide,rfl⟩
 |tup=>refine aO h λ_ _ h=>?_;exact⟨12,⟨_,aK h⟩,rfl,by decide,by decide,rfl⟩
theorem LK.ne (z:Tb R) (h:LK R t d) (u:kindB y=some k) (q:k<5):t≠y:=λe=>by
 subst e;obtain⟨_,a⟩:=z.kd u;induction d with
 |arr=>obtain⟨_,_,h⟩:=h;rw[aK h]at a;cases a;exact absurd q (by decide)
 |tup=>obtain⟨_,_,h⟩:=h;rw[aK h]at a;cases a;exact absurd q (by decide)
theorem cZ{l:List d}{m}(h:bc P l m)(k:∀a b,P a b->Q a b):bc Q l m:=by
 induction h with
 |nil=>exact .nil
 |cons h _ c=>exact .cons (k _ _ h) c
theorem kx{b:List f}{a:List e}(h:bc P l m)(d:bc P b a):bc P (l++b) (m++a):=by
 induction h with
 |nil=>exact d
 |cons h _ c=>exact .cons h c
theorem mB{l:List g}{m}(h:bc P l m):∀a∈l,∃b∈m,P a b:=by
 induction h with
 |nil=>exact λ_ h=>nomatch h
 |cons h _ f=>exact λa c=>(rc.mp c).elim (λe=>⟨_,.head _,e▸h⟩) λc=>(f a c).elim λb d=>⟨b,.tail _ d.1,d.2⟩
theorem UL.up (h:UL R n C t) (g:dU R c S):UL S n C t:=by obtain⟨ids,q,h,u,D,z⟩:=h;exact⟨ids,q,cZ h λ_ _ h=>h.up g,by obtain⟨X,_⟩:=g;exact bz.app u,D,z⟩
theorem UL.one (h:LK R t d):UL R 1 [d] t:=⟨[t],[d],.cons h .nil,rfl,λ_=>.rfl,v6 _⟩
theorem Sj(g:Tb R)(c:∀p∈l,∃d,LK R p d)(h:bz R l t):As R t l:=by
 match l,c,h with
 |[],_,h=>have h:=h;subst h;exact .never
 |[a],c,h=>
  subst h;obtain⟨d,f⟩:=c t<|.head _
  obtain⟨k,⟨m,e⟩,_,_,j,_⟩:=f.kd;exact .one e j<|f.ne g (y:=2) (k:=1) (by decide+kernel) (by decide)
 |a::b::l,_,h=>refine .union (aK h) λe=>?_;subst e;have:=aK h;replace this:=(g.at (i:=2) rfl)▸this;cases this
inductive ULs(R:List PV)(n:Nat)(ts:List Nat)(C:List LD):Prop
 |mk (b:List (List Nat)) (a:List LD) (c:bc (λt I=>bz R (bK I) t) ts b) (h:bc (LK R) b.flatten a) (e:∀x,x∈a↔x∈C) (d:b.flatten.length<=n*ts.length):ULs R n ts C
theorem Q3{ts}(h:bc (λt C=>UL R n C t) ts o):ULs R n ts o.flatten:=by
 induction h with
 |nil=>exact⟨[],[],.nil,.nil,λ_=>.rfl,Rs _⟩
 |cons h _ g=>obtain⟨ids,b,l,k,j,i⟩:=h;obtain⟨m,a,f,e,d,c⟩:=g;exact⟨ids::m,b++a,.cons k f,kx l e,λx=>by rw[TD,cf,TD,j,d],by rw[cf,ch,FB,cC,wp];exact TE c i⟩
theorem M8(e:Tb R){ts}(a:bc (λt I=>bz R (bK I) t) ts b):(∀p∈b.flatten,∃d,LK R p d)->bc (As R) ts (b.map bK):=by
 induction a with
 |nil=>exact λ_=>.nil
 |cons f _ c=>exact λlk=>.cons (Sj e (λp a=>lk p<|ny _<|eO.mp a) f)<|c λp a=>lk p<|br _ a
theorem sO(l):(bK l).length<=l.length:=by have:=gG (m:=gf l) [];rw[tz,ss,eF]at this;exact this
theorem Fx(a:List (List Nat)):(a.map bK).flatten.length<=a.flatten.length:=by
 induction a with
 |nil=>exact v6 _
 |cons I a b=>rw[xL,cf,cf,ch,ch];exact TE (sO I)<|b
theorem Ly{ts}(H:Tb R)(O:bq (G R L) 1 J (iv ts))(h:ULs R n ts C)(Q:n*ts.length<64)(A:R.length<az):∃(t:Nat)(S:List PV),ai 16 [ak 0,J] (G R L) (ae t) [none,none] (G S L)/\dU R 1 S/\UL S (n*ts.length) C t:=by
 refine sA λC M=>?_;obtain⟨a,w,b,h,V,j⟩:=h;have lk:∀p∈a.flatten,∃d,LK R p d:=λp b=>(mB h p b).elim λd m=>⟨d,m.2⟩;have F:∀{q:Nat},q∈(a.map bK).flatten↔q∈a.flatten:=λ{q}=>by rw[iA,iA];exact⟨λr=>aO r λl A z=>(to.mp A).elim λI o=>⟨I,o.1,eO.mp<|o.2▸z⟩,λr=>aO r λI o z=>⟨_,to.mpr ⟨I,o,rfl⟩,eO.mpr z⟩⟩
 have f:∀p∈(a.map bK).flatten,∃d,LK R p d:=λp b=>lk p<|F.mp b
 have c:∀{y:Nat}{k:Int},kindB y=some k->k<5->y∉(a.map bK).flatten:=λN U T=>(f _ T).elim λd m=>m.ne H N U rfl;have s:∀p∈(a.map bK).flatten,Pl R p (-1):=λp b=>by obtain⟨d,m⟩:=f p b;obtain⟨k,⟨Z,e⟩,E,D,_⟩:=m.kd;exact .other e E D
 have v:=ac (am (Fx a) j) Q;have e:=zl (L:=L) O (P:=a.map bK) (M8 H b lk) (λp b=>((s p b).is)▸s p b) (λp b=>⟨λq=>c (y:=14) (k:=2) (by decide+kernel) (by decide)<|q▸b,λq=>c (y:=15) (k:=2) (by decide+kernel) (by decide)<|q▸b⟩) v A
 have u:kO (fJ<|a.map bK)= -1:=by delta kO;rw[if_neg λq=>c (y:=0) (k:=1) (by decide+kernel) (by decide)<|gC.mp q,if_neg λq=>c (y:=13) (k:=1) (by decide+kernel) (by decide)<|gC.mp q,if_neg λq=>c (y:=1) (k:=1) (by decide+kernel) (by decide)<|gC.mp q]
 have i:l8 R (fJ<|a.map bK)=bK a.flatten:=by delta l8;exact(cn.mpr λp b=>by rw[(s p<|gC.mp<|d7.mp b).is];rfl).trans<|(r6 (we.sort<|tD _) λq=>by rw[d7,gC,F]).symm
 have Y:dC R (a.map bK)=yU R (bK a.flatten):=by delta dC;refine u▸i▸?_;rfl
 refine eV (qJ R<|bK a.flatten) λX E D W=>?_
 have g:dU R 1 (yU R<|bK a.flatten).2:=E▸.mk X D
 refine M ?_;exact⟨_,_,Y▸e,g,a.flatten,w,cZ h λ_ _ h=>h.up g,W,V,j⟩
end
section
variable{t:Nat}
theorem HB(g:dU R c S)(h:R[t]?=some a):S[t]?=some a:=by obtain⟨X,_⟩:=g;refine(IR (ty.mp h).1).trans ?_;exact h
theorem Tr.up (h:Tr R t n) (g:dU R c S):Tr S t n:=by
 induction h with
 |mk h q C _ z u=>exact .mk (HB g h) q C u z
theorem F5.up (h:F5 R t) (g:dU R c S):F5 S t:=h.elim λn h=>⟨n,h.1,h.2.up g⟩
theorem DS(g:dU R c S)(h:aM k R=some i):aM k S=some i:=by obtain⟨X,_⟩:=g;exact kh h
theorem SK.up (h:SK R t d) (g:dU R c S):SK S t d:=by
 induction d with
 |lst d=>exact LK.up (d:=d) h g
 |meet m=>exact h.elim λu h=>⟨u,LK.up h.1 g,DS g h.2⟩
 |yT=>exact h
 |any=>exact h
 |atom q=>exact h
theorem bz.up (h:bz R l t) (g:dU R c S):bz S l t:=by obtain⟨X,_⟩:=g;exact bz.app h
theorem EK.up (h:EK R u e) (g:dU R c S):EK S u e:=by
 induction e with
 |k c s=>exact⟨h.1,h.2.1,bz.up h.2.2 g⟩
 |sp p=>
  refine⟨h.1,?_,h.2.2.up g⟩;have h:=h.2.1;induction p with
  |one d=>exact⟨h.1.up g,h.2⟩
  |lI D=>exact h.elim λts h=>h.elim λC h=>⟨ts,C,h.1.up g,h.2.1,h.2.2.1,λq z=>⟨(h.2.2.2 q z).1.up g,(h.2.2.2 q z).2.1.up g,(h.2.2.2 q z).2.2⟩⟩
  |never=>exact h
  |err=>exact h
theorem yf.up (h:yf R q u) (g:dU R c S):yf S q u:=cZ h λ_ _ h=>h.up g
end
def yo:SE->List (List<|Nat×Nat)
 |.k c s=>[[(c,s)]]
 |.sp (.one d)=>[cutD d]
 |.sp (.lI a)=>a.map cutD
 |_=>[]
noncomputable def k7:List SE->List (List<|Nat×Nat)
 |[]=>[[]]
 |e::a=>(yo e).flatMap λw=>(k7 a).map (w++ ·)
noncomputable def isU:SE->Nat
 |.sp (.lI _)=>1
 |_=>0
def rf(a:List SE):Nat:=lF<|a.map isU
theorem vU:a.all tW=true->k7 a=[a.flatMap BU]:=by
 induction a with
 |nil=>exact@λ_=>rfl
 |cons e a f=>
  exact@λh=>aE (show(tW e&&a.all tW)=true from h) λb g=>by
   show((yo e).flatMap λw=>(k7 a).map (w++ ·))=_
   refine(f g)▸dH▸?_;induction e with
   |k c s=>rfl
   |sp p=>
    induction p with
    |one d=>exact u8 _
    |lI=>exact ff b
    |never=>exact ff b
    |err=>exact ff b
theorem eW:∀{i},g∈k7 (i++.sp (.lI k)::j)↔∃d∈k,g∈k7 (i++.sp (.one d)::j)
 |[]=>by refine aW.trans ?_;exact⟨λc=>aO c λw a h=>(to.mp a).elim λd b=>⟨d,b.1,aW.mpr ⟨w,wP.mpr b.2.symm,h⟩⟩,λc=>aO c λd b h=>(aW.mp h).elim λw a=>⟨w,to.mpr ⟨d,b,(wP.mp a.1).symm⟩,a.2⟩⟩
 |e::i=>by refine aW.trans ?_;exact⟨λc=>aO c λw a h=>(to.mp h).elim λr f=>(eW.mp f.1).elim λd b=>⟨d,b.1,aW.mpr ⟨w,a,to.mpr ⟨r,b.2,f.2⟩⟩⟩,λc=>aO c λd b h=>(aW.mp h).elim λw a=>(to.mp a.2).elim λr f=>⟨w,a.1,to.mpr ⟨r,eW.mpr ⟨d,b,f.1⟩,f.2⟩⟩⟩
theorem xG(a b):rf (a++b)=rf a+rf b:=by delta rf;rw[AC,wG]
theorem sN:∀{b i p},AL i b=some p->∃c d f,b=c++.sp (.lI d)::f/\p=i+c.length
 |e::b,i,p,h=>by
  have a:AL i (e::b)=AL (i+1) b->∃c d f,e::b=c++.sp (.lI d)::f/\p=i+c.length:=λq=>by
   refine xY (sN<|q.symm.trans h) λc d f j g=>?_
   exact⟨e::c,d,f,congrArg _ j,by rw[g,FB,wn,wp 1]⟩
  induction e with
  |k=>exact a rfl
  |sp q=>
   induction q with
   |lI d=>exact⟨[],d,b,rfl,(bn h).symm⟩
   |one=>exact a rfl
   |never=>exact a rfl
   |err=>exact a rfl
theorem PI:∀{i},AL i b=none->b.findSome? isBad=none->b.all tW=true:=by
 induction b with
 |nil=>exact@λ_ _ _=>rfl
 |cons e b c=>
  intro i h a;induction e with
  |k=>exact c (i:=i+1) h a
  |sp q=>
   induction q with
   |lI d=>exact nE h.symm
   |one=>exact c (i:=i+1) h a
   |never=>exact nE a.symm
   |err=>exact nE a.symm
inductive Kj(a:Nat)(d:List RV)(b:List (Option RV))(R:List PV)(L:List GO)(c n:Nat)(C:List LD):Prop
 |mk (t:Nat) (S:List PV) (e:ai a d (G R L) (ae t) b (G S L)) (g:dU R c S) (h:UL S n C t):Kj a d b R L c n C
noncomputable def jJ:Nat->Nat
 |0=>22
 |n+1=>3*jJ n+1
def kn(a:Nat)(b:List SE):List LD:=(k7 b).map<|G0 a
structure B9(R:List PV)(L:List GO)(N:Nat)(es:List SE)(ts:List (Nat×Nat))(xa:RV):Prop where
 hT:Tb R
 h:yf R ts es
 hx:∀S,bq (G S L) 1 xa<|ab ts
 ht:isTup xa=false
 hb:es.findSome? isBad=none
 hu:rf es<=N
 ho:∀row∈k7 es,vr row=true
 h3:∀ds,SE.sp (.lI ds)∈es->ds.length<=3
 hl:ts.length<=10
 hc:R.length+jJ N+50<az
section
variable{R S:List PV} {g:List GO} {x c n:Nat} {ro:Nat} {xa:RV}
theorem UL.weak (h:UL R n C t) (z:n<=u) (D:∀x,x∈C↔x∈J):UL R u J t:=by obtain⟨ids,q,I,H,F,E⟩:=h;exact⟨ids,q,I,H,λx=>(F x).trans<|D x,am E z⟩
theorem uy{d}:∀{l},bc P l (d++b::k)->∃i a f,l=i++a::f/\bc P i d/\P a b/\bc P f k:=by
 induction d with
 |nil=>exact λh=>h.JH λx j e p t=>⟨[],x,j,e,.nil,p,t⟩
 |cons c d m=>exact λh=>h.JH λx j e p t=>Et (m t) λi a f s r q o=>⟨x::i,a,f,e.trans<|congrArg _ s,.cons p r,q,o⟩
theorem fb{l:List b}{m}(h:bc P l m):l.length=m.length:=by
 induction h with
 |nil=>rfl
 |cons _ _ a=>exact congrArg dO a
noncomputable def Y':RV->Option RV
 |.v _=>none
 |x=>some x
theorem Ee(i:bq g 1 xa l)(j:rs[1]?=some (some xa))(r)(d:List PV):pQ (.v a::xa::d.map .v) ⟨rs,f⟩ (.ret r)=some (r,none::Y' xa::d.map λ_=>none,f):=by
 have e:∀(d:List PV)(k:Nat),ee ⟨rs,f⟩ k (d.map .v)=d.map λ_=>none:=λd=>by
  induction d with
  |nil=>exact λ_=>rfl
  |cons b d h=>exact λk=>congrArg (none::·)<|h<|k+1
 have m:ee ⟨rs,f⟩ 1 (xa::d.map .v)=Y' xa::ee ⟨rs,f⟩ 2 (d.map .v):=by
  induction i with
  |tup=>rfl
  |lst=>rfl
  |aZ=>rfl
  |ml l=>exact congrArg (· ::_)<|bI (eI j) rfl
 show some (r,none::ee ⟨rs,f⟩ 1 (xa::d.map .v),f)=_;rw[m,e]
theorem A9(a:bq g 1 xa l):cA g xa=some l:=by
 induction a with
 |tup=>rfl
 |lst=>rfl
 |ml=>rfl
 |aZ h=>exact bI h rfl
theorem Rj(d:cA g xa=some l)(a:isTup xa=false)(e:b<=l.length):ya g xa none (some<|.int (b:Int))=some (.ml none<|l.take b):=bI d (bI (x:=0) rfl<|mI (x:=b) (mI (x:=(b:Int)) rfl<|(eg _ _).trans<|dG e) (by refine a▸?_;rfl))
theorem Ri(d:cA g xa=some l)(b:isTup xa=false)(e:a<=l.length):ya g xa (some<|.int (a:Int)) none=some (.ml none<|l.drop a):=by
 refine bI d<|bI (x:=a) (mI (x:=(a:Int)) rfl<|(eg _ _).trans<|dG e)<|mI (x:=l.length) rfl ?_
 refine b▸lx▸?_;rfl
theorem Vt{b:Nat}{x}(a:cA g xa=some l)(h:l[b]?=some x):gy g xa (.int (b:Int))=some x:=by delta gy;refine a▸?_;exact bI rfl<|bI (fU h) h
def Gg(g:List GO)(xa:RV)(p ro:Nat)(a:List Nat)(o:Option Nat):St:=⟨[some<|ak 10,some xa,ni p,ni ro,some<|ak 0,some<|.ml none<|iv a,on o,none],g⟩
inductive Zd(R:List PV)(M n b:Nat)(U:List Nat)(e:Nat->List LD)(r:List Nat)(S:List PV)(a:List Nat):Prop
 |mk (c:Nat) (d:List Nat) (g:dU R c S) (f:c+b*r.length=M) (h:bc (λv q=>UL S n (e q) v) a d) (i:d++r=U):Zd R M n b U e r S a
theorem Vu{c g l M R C}(h:c+g*(l+1)=M)(a:R+M+50<C):c+g+g*l=M/\R+c+g+50<C:=by
 have e:c+g+g*l=M:=(by rw[wn,wp g];exact h)
 exact⟨e,ac (lf (by rw[wn];exact db (e▸pp _ _) R) 50) a⟩
noncomputable def Ur:Nat->Nat
 |0=>92
 |1=>90
 |2=>88
 |_=>36
noncomputable def ZC:Nat->Nat
 |0=>93
 |1=>91
 |2=>89
 |_=>35
theorem Jm:∀N,FT[Ur N]?=some (uY<|ZC N)
 |0=>rfl
 |1=>rfl
 |2=>rfl
 |_+3=>rfl
theorem Xm:∀{N},N<3->FT[ZC<|N+1]?=some (Jx<|Ur N)
 |0,_=>rfl
 |1,_=>rfl
 |2,_=>rfl
theorem CH{td}{v:Nat}(z:bq (G S L) 1 xa (ab<|td++(f,3)::a))(r:isTup xa=false)(A:(td++(f,3)::a).length<=10)(w:b.length<az)(e:ai fi [ak 10,.ml (some 1)<|ab<|td++(q,3)::a,ae ro] (G S L) (ae v) [none,none,none] (G k L)):oF (.v 6) (lb (Jx fi) 2) (.int (q:Int)) (Gg (G S L) xa td.length ro b o) (Gg (G k L) xa td.length ro (b++[v])<|some q):=by
 have t:=A9 z;have y:td.length<=(ab<|td++(f,3)::a).length:=by rw[aC,ch];exact pp _ _
 have h:td.length+1<=(ab<|td++(f,3)::a).length:=by rw[aC,ch,FB];exact db (ut 1 _) _
 have m:=Rj (g:=G S L) t r y;have l:=Ri (g:=G S L) t r h;rw[mR,vc]at m;rw[j3,show(td++(f,3)::a).drop (td.length+1)=a by rw[<-ve,List.drop_left];rfl]at l
 have p:=A;rw[ch,FB]at p;have d:td.length+(1+a.length)<=10:=by rw[wp 1];exact p
 have C:hK (G S L) .Add (.ml none<|ab td) (.ml none<|ab [(q,3)])=some (.ml none<|ab td++ab [(q,3)]):=mC (by rw[aC,aC];exact am (db (pp 1 a.length) _)<|am d (by decide))
 have u:hK (G S L) .Add (.ml none<|ab td++ab [(q,3)]) (.ml none<|ab a)=some (.ml none<|(ab td++ab [(q,3)])++ab a):=mC (by rw[ch,aC,aC,aC,wn];exact am d (by decide))
 have j:(ab td++ab [(q,3)])++ab a=ab (td++(q,3)::a):=by delta ab;rw[sK,AC];rfl
 rw[j]at u;exact kt 9 [ov m,ov C,od,ov l,ov u,oc e,om<|eU (s:=Gg (G k L) xa td.length ro b<|some q) (i:=5) (x:=.int (v:Int)) (out:=iv b) rfl (by rw[aJ];exact w) (s':=Gg (G k L) xa td.length ro (b++[v])<|some q) (by rw[gF];rfl)]
theorem LY{td}{j:List Nat}(IH:∀{F:List SE}{ts:List (Nat×Nat)}{xa:RV}{R:List PV},B9 R L N F ts xa->Kj (Ur N) [ak 10,xa,ae ro] [none,none,none] R L (jJ N) (3^N) (kn ro F))(I:B9 R L (N+1) (f++.sp (.lI ds)::d) (td++(tq,3)::m) xa) (h1:yf R td f) (h2:yf R m d) (t:ds=j.map i) (X:∀q∈U,q∈j/\SK R q (i q)/\F5 R q/\HX (i q)=true)(Z:R.length+M+50<az) (u:U.length<=3) (q) (r) (S) (b) (o) (h:Zd R M (3^N) (jJ N) U (λq=>kn ro<|f++.sp (.one<|i q)::d) (q::r) S b):T6 (λS b o=>Gg (G S L) xa td.length ro b o) (Zd R M (3^N) (jJ N) U (λq=>kn ro<|f++.sp (.one<|i q)::d) r) (.v 6) (lb (Jx<|Ur N) 2) q (Gg (G S L) xa td.length ro b o):=by
 refine sA λC V=>?_;obtain⟨c,dq,g,Y,A,w⟩:=h;have a:=Vu Y Z;have J:=w▸br _ (.head _);refine YB (X q J) λT Q P O=>?_;have z:=I.hl;rw[ch,FB]at z;have dm:=t▸to.mpr ⟨q,T,rfl⟩;have l:=I.hu;rw[xG]at l;have I':B9 S L N (f++.sp (.one<|i q)::d) (td++(q,3)::m) (.ml (some 1)<|ab<|td++(q,3)::m):=by
  refine⟨g.tb I.hT,kx (yf.up h1 g)<|.cons ⟨rfl,⟨Q.up g,O⟩,P.up g⟩<|yf.up h2 g,λ_=>.ml _,rfl,?_,?_,λp W=>I.ho p<|eW.mpr ⟨i q,dm,W⟩,λy k=>I.h3 y ?_,?_,?_⟩
  .have D:=I.hb;rw[Ay]at D⊢;exact D
  .rw[xG];change rf f+(1+rf d)<=N+1 at l;show rf f+(0+rf d)<=N;rw[ss];rw[wp 1,<-wn]at l;exact bH l
  .exact(TD.mp k).elim (ny _) λk=>(rc.mp k).elim (λe=>nomatch e) λk=>br _<|.tail _ k
  .rw[ch,FB];exact z
  .exact ac (lf (lf g.len _) _) a.2
 obtain⟨v,S',e,E,s⟩:=IH I';have H:b.length<az:=by
  rw[fb A];refine ac (am ?_ u) (by decide)
  exact w▸ch▸pp _ _
 refine V ?_;exact⟨S',b++[v],CH (I.hx S) I.ht I.hl H e,c+jJ N,dq++[q],g.trans E,a.1,kx (cZ A λ_ _ h=>h.up E) (.cons s .nil),by rw[sK];exact w⟩
end
section
variable{R:List PV} {L:List GO} {N:Nat} {ro:Nat} {xa:RV} {ts:List (Nat×Nat)} {es:List SE}
theorem wb{l:List e}{m:List d}(h:bc (λa b=>P a<|f b) l m):bc P l (m.map f):=by
 induction h with
 |nil=>exact .nil
 |cons h _ c=>exact .cons h c
abbrev IHs(L:List GO)(ro N:Nat):Prop:=∀{es:List SE}{ts:List (Nat×Nat)}{xa:RV}{R:List PV},B9 R L N es ts xa->Kj (Ur N) [ak 10,xa,ae ro] [none,none,none] R L (jJ N) (3^N) (kn ro es)
theorem WK(IH:IHs L ro N)(V:3^ (N+1)<64)(I:B9 R L (N+1) (ed++.sp (.lI ds)::er) ts xa):Kj (ZC<|N+1) [ak 10,xa,ae (ed.length:Nat),ae ro] [none,Y' xa,none,none] R L (jJ<|N+1) (3^ (N+1)) (kn ro<|ed++.sp (.lI ds)::er):=by
 refine sA λC q'=>?_;have n3:=Nat.lt_of_not_le λh=>absurd V<|iF.mpr<|am (by decide:64<=3^4)<|iW (wv _)<|b6 h
 obtain⟨td,⟨tq,s⟩,tr,e,W,he,h2⟩:=uy I.h;subst e;refine Ao he λe3 m _=>AG m λf z ho H i hq=>?_;subst e3;have tl:=fb W;have u:∀q∈bK f,q∈f/\SK R q (z q)/\F5 R q/\HX (z q)=true:=λq h=>⟨eO.mp h,hq q<|eO.mp h⟩
 have X:=I.h3 ds<|br _<|.head _
 have O:=am (sO f) (by rw[i,im]at X;exact X)
 have M:jJ N*(bK f).length<=3*jJ N:=by rw[Aw];exact nT _ O
 have hM:=ac (lf (db (am M<|Tm _) _) _) I.hc
 obtain⟨S,j,o,e,c,dq,g,w,Q,U⟩:=Il (t:=.v 6) (b:=lb (Jx<|Ur N) 2) (S:=λS j o=>Gg (G S L) xa td.length ro j o) (J:=Zd R (jJ N*(bK f).length) (3^N) (jJ N) (bK f) λq=>kn ro<|ed++.sp (.one<|z q)::er) (λq r S j o h=>LY IH I W h2 i u hM O q r S j o h) (qs:=bK f) (R:=R) (c:=[]) (o:=none) ⟨0,[],.refl,ss _,.nil,rfl⟩
 rw[u8]at U;subst U;have w:c=jJ N*(bK f).length:=w;have Z:=fb Q;have P:3^N*j.length<=3^ (N+1):=by rw[Z,Av];exact FS _ O
 have sl:=ac g.len<|ac (db (am (w▸M)<|Tm _) _)<|ac (pp _ 50) I.hc
 refine ju (Ly (L:=L) (g.tb I.hT) (bq.ml<|iv j) (Q3<|wb Q) (ac P V) sl) λx Y e2 g2 D=>?_
 have hs:=A9<|I.hx R
 have s0:=Vt hs<|gz rfl
 refine q' ?_;refine tl▸?_;refine⟨x,Y,Wz (Xm n3) (Ee (a:=.aZ 10) (I.hx R) (rs:=((Gg (G Y L) xa td.length ro j o).put 5 none).r) rfl (ae x) [.int (td.length:Nat),.int (ro:Int)]) 20 [op s0,od,op<|bj (L:=L)<|mP ho H,od,ol<|cz (src:=.l _) e,oc e2],(g.trans g2).up<|b6<|w▸M,D.weak P λy=>?_⟩
 refine iA.trans ?_;delta kn;rw[to];exact⟨λA=>aO A λl hl hy=>(to.mp hl).elim λq F=>by
  obtain⟨n,E⟩:=F;subst E;refine aO (to.mp hy) λk p e=>?_;exact⟨k,eW.mpr ⟨z q,i▸to.mpr ⟨q,(u q n).1,rfl⟩,p⟩,e⟩,
  λA=>aO A λk p e=>by refine aO (eW.mp p) λd T p=>?_;rw[i]at T;refine aO (to.mp T) λq n m=>?_;subst m;exact⟨_,to.mpr ⟨q,eO.mpr n,rfl⟩,to.mpr ⟨k,p,e⟩⟩⟩
theorem zo(A:3^N<64):IHs L ro N:=by
 induction N with
 |zero=>
  intro es ts xa R I;have c:=PI (i:=0) (by
   cases q:AL 0 es with
   |none=>rfl
   |some p=>refine xY (sN q) λd u j e _=>?_;have z:=I.hu;rw[e,xG]at z;exact absurd (show rf d+(1+rf j)<=0 from z) (by rw[wp 1,<-wn];exact dP _)) I.hb
  have f:=vU c;obtain⟨t,S,e,g,k⟩:=Qc (Jm _) (L:=L) (ro:=ro) I.hT I.h (I.hx R) c I.hl (I.ho _<|f▸.head _)<|ac (lf (pp _ 22) _) I.hc
  refine⟨t,S,e,g,UL.weak (.one k) (v6 _) λy=>?_⟩;delta kn;rw[f];rfl
 |succ N l=>
  have m:=ac (iW (wv _)<|Tm N) A
  intro es ts xa R I;induction q:AL 0 es with
  |none=>
   have c:=PI q I.hb;have f:=vU c;obtain⟨t,S,e,g,k⟩:=Qc (Jm _) (L:=L) (ro:=ro) I.hT I.h (I.hx R) c I.hl (I.ho _<|f▸.head _)<|ac (lf (pp _ _) _) I.hc
   have n:∀N,22<=jJ N:=λN=>by
    induction N with
    |zero=>exact v6 _
    |succ N l=>exact am l<|am (Nat.le_mul_of_pos_left _ (by decide))<|Tm _
   refine⟨t,S,e,g.up<|n _,UL.weak (.one k) (Ys (by decide)) λy=>?_⟩
   delta kn;rw[f];rfl
  |some p=>
   refine xY (sN q) λd u j e c=>?_;subst e;rw[ss]at c;subst c;have E:B9 R L (N+1) (d++.sp (.lI u)::j) ts (.ml (some 1)<|ab ts):=⟨I.hT,I.h,λ_=>.ml _,rfl,I.hb,I.hu,I.ho,I.h3,I.hl,I.hc⟩
   obtain⟨x,S,D,g,k⟩:=WK (l m) A E;have i:=s8 (L:=L) (ro:=ro) (x1:=xa.eJ) (Q:=λs=>s.g=G R L) I.hT (λ_ _=>rfl) I.h (us:=[]) (o5:=none) (by rw[tz,ss];exact ac I.hl (by decide))
   rw[I.hb]at i;refine fN i λo i=>?_;have w:=WE (L:=L) I.hT I.h I.hb I.hl;rw[show Uq (d++.sp (.lI u)::j)=(d.length:Nat) by delta Uq;rw[q]]at w
   have C:aS (G R L) .GtE (ae (d.length:Nat)) (ae 0)=some true:=congrArg some<|decide_eq_true<|Do _
   exact⟨x,S,Wz (Jm _) (xP (a:=.aZ 10) (I.hx R) (rs:=((spS (G S L) xa.eJ ro ts o).put 6<|ni d.length).r) rfl (ae x) [.int (ro:Int)]) 20 [os<|ou (t:=.v 5) (b:=lb (uY 0) 2) (i:=1) (rs:=ZF (G R L) xa ro) (I.hx R) rfl i,oc w,ob C,oc D],g,k⟩
end
theorem KX.inj (h:KX R c u) (z:KX R c q):u=q:=bz.inj h z
theorem EX.inj (h:EX R z F):EX R q F->z=q:=by
 induction h generalizing q with
 |nil=>exact λh=>by cases h;rfl
 |cons h _ D=>
  intro E;cases E with
  |cons u C=>rw[D C,Cc (KX.inj h.1 u.1)<|h.2.trans u.2.symm]
theorem LK.inj (h:LK R t d) (E:LK R H d):t=H:=by
 induction d with
 |arr m I=>refine aO h λu D C=>?_;refine aO E λF q z=>?_;rw[bz.inj D q,z]at C;exact(bn C).symm
 |tup J I=>refine aO h λu D C=>?_;refine aO E λF q z=>?_;rw[EX.inj D q,z]at C;exact(bn C).symm
theorem rj{l:List g}{m}(h:bc P l m):∀b∈m,∃a∈l,P a b:=by
 induction h with
 |nil=>exact λ_ h=>nomatch h
 |cons h _ f=>exact λa c=>(rc.mp c).elim (λe=>⟨_,.head _,e▸h⟩) λc=>(f a c).elim λb d=>⟨b,.tail _ d.1,d.2⟩
theorem UL.sub {ids} (h:bc (LK R) ids u) (I:bc (LK R) ids' lds') (D:∀x,x∈u->x∈lds'):∀q,q∈ids->q∈ids':=λq E=>by
 refine aO (mB h q E) λd H F=>?_;refine aO (rj I d<|D d H) λJ z C=>?_
 exact(F.inj C)▸z
theorem UL.eq (h:UL R n C t) (P:UL R Q C L):t=L:=by
 obtain⟨ids,M,J,O,I,_⟩:=h;obtain⟨u,E,H,N,F,_⟩:=P;have e:=r6 (yr u) λq=>⟨λD=>eO.mpr<|UL.sub J H (λx z=>(F x).mpr<|(I x).mp z) q D,λD=>UL.sub H J (λx z=>(I x).mpr<|(F x).mp z) q<|eO.mp D⟩
 exact bz.inj (e▸O) N
theorem TO:((Db 13).all λb=>dW.any λa=>co a.2 b)=true:=by decide+kernel
theorem NK(f:m<8192)(d:c<8192)(e:af m=af c):m=c:=Em λi=>by
 by_cases h:i<13
 .refine aO (P3.mp<|bv.mp TO i<|bS.mpr h) λa g q=>?_
  have q:=ii q;subst q;have:=(ik (m:=m) (q:=a.1) (b:=a.2) g).symm.trans<|(e▸AD:a.1∈af m↔a.1∈af c).trans<|ik (m:=c) g
  exact uI.mpr this
 .have z:∀{m:Nat},m<8192->m.testBit i=false:=λf=>Nat.testBit_lt_two_pow (bh f<|iW (n:=2) (wv _)<|Lb h)
  exact(z f).trans (z d).symm
noncomputable def iS(e:Nat×Nat):Nat:=e.1|||bif co e.2 1 then 512 else 0
theorem Fp(l:List (Nat×Nat)):∀(b),af (au<|b|||orM (l.map eX))=af (au<|b|||orM (l.map iS)):=by
 induction l with
 |nil=>exact@λ_=>rfl
 |cons e l c=>
  intro b;rw[xL,xL,cw,cw,<-cg,c];delta eX;induction q:co e.2 1 with
  |true=>
   have a:iS e=orM [e.1,512]:=by delta iS;rw[q,cw,cw];exact congrArg (e.1||| ·) (fE 512).symm
   rw[<-a];show af (au<|b|||au (iS e)|||_)=_
   rw[nS b,cg,DQ,<-cg,nS _ b,cg]
  |false=>
   have a:iS e=e.1:=by delta iS;exact q▸fE _
   rw[a];show af (au<|b|||e.1|||_)=_
   rw[cg]
theorem Fq(l:List (Nat×Nat)):au (orM (l.map eX))=au (orM (l.map iS)):=NK (kg _) (kg _) (by have:=Fp l 0;rwa [eP,eP]at this)
theorem qL{l}:∀{i k},(bX a i l).take k=bX a i (l.take k):=by
 induction l with
 |nil=>intro _ k;rw[xV];exact xV
 |cons e l c=>
  intro i;intro b;induction b with
  |zero=>exact rfl
  |succ k=>exact congrArg (_::·)<|c (i:=i+1) (k:=k)
theorem qM{l}:∀{i k},(bX last i l).drop k=bX last (i+k) (l.drop k):=by
 induction l with
 |nil=>intro _ k;rw[oO];exact oO
 |cons e l b=>
  intro i;intro a;induction a with
  |zero=>exact rfl
  |succ k=>show(bX last (i+1) l).drop k=_;rw[b,wn,wp 1];rfl
theorem Dh{l}:∀{i},(∀e∈l,co e.2 1=false)->bX a i l=l:=by
 induction l with
 |nil=>exact@λ_ _=>rfl
 |cons e l b=>
  intro i h;show(bif co e.2 1&&decide ((i:Int)<a)then(au<|orM [e.1,512],0)else e)::bX a (i+1) l=_
  rw[h e<|.head _,b λe m=>h e<|.tail _ m];rfl
theorem vF{l}:∀{i},(bX a i l).map eX=l.map eX:=by
 induction l with
 |nil=>exact@λ_=>rfl
 |cons e l b=>
  intro i;show eX (bif co e.2 1&&decide ((i:Int)<a)then(au<|orM [e.1,512],0)else e)::(bX a (i+1) l).map eX=_
  rw[b,xL];induction q:co e.2 1 with
  |false=>rfl
  |true=>
   induction decide ((i:Int)<a)with
   |false=>rfl
   |true=>exact congrArg (· ::_) (by delta eX;rw[q];rfl)
end Mine.Internal
end
namespace Mine.Internal
noncomputable def jR(a:List (Nat×Nat)):Nat:=(a.map py).findIdx (co · 2)
noncomputable def qY(a:List (Nat×Nat)):Bool:=(a.map py).any (co · 2)
def vB(a:List (Nat×Nat)):List (Nat×Nat):=bX (aY [0] 0 (-1)<|a.map py) 0 (a.take<|jR a)++bif qY a then(au<|orM<|((a.take<|(j9 a).toNat+1).drop<|jR a).map iS,2)::a.drop ((j9 a).toNat+1)else[]
theorem oy:∀{b},qY b=true->∃A e B,b=A++e::B/\e.2=2/\(∀a∈A,co a.2 2=false)/\jR b=A.length
 |e::b,h=>by
  induction q:co e.2 2 with
  |true=>refine⟨[],e,b,rfl,ii q,(λ_ m=>nomatch m),?_⟩;delta jR;rw[xL,rq,q];rfl
  |false=>
   change(co e.2 2||qY b)=true at h
   rw[q]at h;refine Et (oy h) λA x B f d g c=>?_;refine⟨e::A,x,B,congrArg _ f,d,λa m=>(rc.mp m).elim (λe=>e▸q)<|g a,?_⟩
   change(b.map py).findIdx (co · 2)=A.length at c
   delta jR;rw[xL,rq,q,c];rfl
theorem FC:∀{i f},decide (f<0)=false->dE i f l=f:=by
 induction l with
 |nil=>exact@λ_ _ _=>rfl
 |cons s l a=>intro i f h;show dE (i+1) (bif decide (f<0)&&co s 2 then i else f) l=f;refine h▸?_;exact a h
theorem vK{A:List (Nat×Nat)}:∀{l i},(∀a∈A,co a.2 2=false)->dE i f (A.map py++l)=dE (i+A.length) f l:=by
 induction A with
 |nil=>exact@λ_ _ _=>rfl
 |cons a A b=>intro l i h;show dE (i+1) (bif decide (f<0)&&co a.2 2 then i else f) (A.map py++l)=_;rw[h a<|.head _,bp,cond_false,b λx m=>h x<|.tail _ m,wn,wp 1];rfl
theorem zC:∀{i j f},dE j f ((bX a i l).map py)=dE j f (l.map py):=by
 induction l with
 |nil=>exact@λ_ _ _=>rfl
 |cons e l b=>
  intro i j f;show dE (j+1) (bif decide (f<0)&&co (bif co e.2 1&&decide ((i:Int)<a)then(au<|orM [e.1,512],0)else e).2 2 then j else f) ((bX a (i+1) l).map py)=dE (j+1) (bif decide (f<0)&&co e.2 2 then j else f) _
  refine b.trans ?_;induction q:co e.2 1&&decide ((i:Int)<a)with
  |false=>rfl
  |true=>rw[fM]at q;rw[ii q.1];rfl
theorem vA:∀{m i f},aY a i f (l++m)=aY a (i+l.length) (aY a i f l) m:=by
 induction l with
 |nil=>exact@λ_ _ _=>rfl
 |cons s l b=>intro m i f;show aY a (i+1) _ (l++m)=aY a (i+(l.length+1)) (aY a (i+1) _ l) m;rw[b,wn,wp 1]
theorem tU:∀{l:List Nat}{i:Nat}{f:Int},f<i->∀s∈l.drop (aY ms i f l+1 - i).toNat,decide (s∈ms)=false
 |[],_,_,_,_,h=>by rw[oO]at h;exact nomatch h
 |x::l,i,f,g,s,h=>by
  have h:s∈(x::l).drop (aY ms (i+1) (bif decide (x∈ms)then i else f) l+1 - i).toNat:=h;have c:(bif decide (x∈ms)then(i:Int)else f)<((i+1:Nat):Int):=by
   induction decide (x∈ms)with
   |true=>exact aV.mpr<|Ix i
   |false=>exact Int.lt_trans g<|aV.mpr<|Ix i
  have b:=tU (ms:=ms) (l:=l) c;have a:=pC (ms:=ms) (l:=l) (i:=i+1) (f:=bif decide (x∈ms)then i else f);generalize aY ms (i+1) (bif decide (x∈ms)then i else f) l=k at h b a;by_cases d:(i:Int)<=k
  .rw[show(k+1 - i).toNat=(k+1 -(i+1:Nat)).toNat+1 by omega]at h
   exact b s h
  .induction q:decide (x∈ms)with
   |true=>rw[q]at a;rcases a with e|⟨j,_,e⟩<;>rw[e]at d<;>exact absurd (by first|exact nU _|omega) d
   |false=>
    rw[show(k+1 - i).toNat=0 by omega]at h
    rw[show(k+1 -(i+1:Nat)).toNat=0 by omega]at b
    exact(rc.mp h).elim (λe=>e▸q)<|b s
theorem Ni(p:∀e∈es,au e.1=e.1):Pq es=vB es:=by
 delta Pq vB Fb xp yX;rw[zC];induction q:qY es with
 |false=>
  have v:∀a∈es,co a.2 2=false:=λa m=>by
   induction r:co a.2 2 with
   |false=>rfl
   |true=>rw[show qY es=true from P3.mpr ⟨a.2,En m,r⟩]at q;exact q
  have n:=vK (f:= -1) (l:=[]) (i:=0) v;rw[u8]at n;rw[n,show jR es=(es.map py).length from Ai.mpr λx m=>by refine aO (to.mp m) λa F e=>?_;exact e▸(v a F)▸rfl,im,lx,cond_false,u8]
  rfl
 |true=>
  refine Et (oy q) λA e B o d H D=>?_;subst o;have n:dE 0 (-1) ((A++e::B).map py)=(A.length:Int):=by rw[AC,vK H,xL,d,ss];exact FC<|decide_eq_false<|eQ.mpr<|Do _
  have g:=tU (ms:=[2,1]) (l:=(A++e::B).map py) (i:=0) (f:= -1) (by decide)
  have I:j9 (A++e::B)=aY [2,1] (A.length+1) A.length (B.map py):=by delta j9;rw[AC,vA,im,xL,d,ss];rfl
  have z:∃k,A.length<=k/\j9 (A++e::B)=(k:Nat):=by
   rw[I];rcases pC (ms:=[2,1]) (l:=B.map py) (i:=A.length+1) (f:=A.length)with h|⟨j,_,h⟩
   .exact⟨_,v6 _,h⟩
   .exact⟨_,am (Tm _)<|pp _ j,h⟩
  refine aO z λk C w=>?_;have g:∀x∈(A++e::B).drop (k+1),co x.2 1=false:=λx m=>by
   have:=g x.2 (by
    refine(show aY [2,1] 0 (-1) ((A++e::B).map py)=(k:Nat) from w)▸(show(((k:Nat):Int)+1 -(0:Nat)).toNat=k+1 by omega)▸oN▸?_
    exact En m)
   induction r:co x.2 1 with
   |false=>rfl
   |true=>rw[ii r]at this;exact this
  generalize aY [0] 0 (-1) ((A++e::B).map py)=b;rw[n,w,D,fh,cond_true,decide_eq_false<|eQ.mpr<|Do _,Os]
  by_cases c:k=A.length
  .subst c;rw[decide_eq_true<|nU _,cond_true,Lc rfl]
   have y:∀x∈e::B,co x.2 1=false:=λx m=>(rc.mp m).elim (λq=>q▸d▸rfl) λm=>g x (by rw[KA,Aj<|Tm _,Sc];exact m)
   have u:=qM (last:=b) (l:=A++e::B) (i:=0) (k:=A.length);rw[Ld rfl,Dh y]at u;have t:=Ax A.length<|bX b 0<|A++e::B
   rw[u,qL,Lc rfl]at t;rw[<-t,show Ak (A.length:Nat)=A.length from rfl];have E:((A++e::B).take<|A.length+1).drop A.length=[e]:=by rw[List.take_append,Ag<|Tm _,Sc,Ld rfl];rfl
   rw[E,KA,Aj<|Tm _,Sc]
   have s:iS e=e.1:=by delta iS;refine d▸?_;exact fE _
   rw[xL,cw,show orM (List.map iS [])=0 from rfl,fE,s,p e<|br _<|.head _,<-d]
   rfl
  .rw[decide_eq_false<|show¬((k:Nat):Int)<=(A.length:Nat) from λh=>c<|Pd (jx.mp h) C,cond_false]
   delta C1;rw[show Ak (k:Nat)=k from rfl,qL,qM,Dh g];congr 2;rw[qL,qM,vF,Fq]
end Mine.Internal
section
open PySem (Str Operator CmpOp PyData)
namespace Mine.Internal
theorem pF{d:Type}{v}{F:d->RV}{p}{after:Option d->St}{own elt t cs}(k:∀a o,bY t (v a) (after o)=some (after<|some a)){l:List d}:∀{out o},out.length+l.length<az->(∀a∈l,Ok (λf=>iQ f cs<|after<|some a) (p a,after<|some a))->(∀a∈l,p a=true->Ok (λf=>f.e elt<|after<|some a) (F a,after<|some a))->∃n,Ok (λf=>bb (compTurn f own elt t cs) (l.map v) (out,after o)) (none,(out++(l.filter p).map λa=>(F a).eJ,after n)):=by
 induction l with
 |nil=>exact@λout o _ _ _=>⟨o,by show Ok _ (none,(out++[],_));rw[u8];exact .pure⟩
 |cons q s j=>
  intro out o r i h;have a:=jU r;have c:=i q<|.head _
  induction e:p q with
  |true=>
   rw[e]at c;obtain⟨g,b⟩:=j (out:=out++[(F q).eJ]) (o:=some q) (ch▸a.2.2) (λq m=>i q<|.tail _ m) λq m=>h q<|.tail _ m
   rw[sK]at b;refine⟨g,?_⟩;rw[aX,if_pos e];exact(fV (k q o) c a.1<|h q (.head _) e).two b λf=>dk
  |false=>
   rw[e]at c;obtain⟨g,b⟩:=j (out:=out) (o:=some q) a.2.1 (λq m=>i q<|.tail _ m) λq m=>h q<|.tail _ m
   refine⟨g,?_⟩;rw[aX,if_neg<|e▸xz]
   exact(sx (k q o) c).two b λf=>dk
noncomputable def places(p:Nat->Bool):Nat->List Nat->List Nat
 |_,[]=>[]
 |i,s::l=>bif p s then i::places p (i+1) l else places p (i+1) l
theorem tw:∀{l pre},m=pre++l->(IN pre.length l.length).filter (λk=>m[k]?.any p)=places p pre.length l
 |[],_,_=>rfl
 |s::l,pre,e=>by
  have a:=tw (m:=m) (l:=l) (pre:=pre++[s]) (p:=p) (by rw[e,sK];rfl)
  rw[ch]at a;show(pre.length::IN (pre.length+1) l.length).filter _=bif p s then _ else _;have b:m[pre.length]?=some s:=by rw[e,Fk<|v6 _,gX];rfl
  rw[aX,b];show(if p s=true then _ else _)=_
  induction p s with
  |true=>exact congrArg (_::·) a
  |false=>exact a
theorem og(m):(Db m.length).filter (λk=>m[k]?.any p)=places p 0 m:=WP▸tw (pre:=[]) rfl
theorem tK{p l}:∀{i:Nat}{f:Int},(∀s∈l,p s=decide (s∈ms))->f<i->nj f ((places p i l).map λ(n:Nat)=>(n:Int))=aY ms i f l:=by
 induction l with
 |nil=>exact@λ_ _ _ _=>rfl
 |cons s l b=>
  intro i f a h;have c:∀{f:Int},f<=i->f<((i+1:Nat):Int):=λh=>jO h<|aV.mpr<|Ix i
  show nj f ((bif p s then i::places p (i+1) l else places p (i+1) l).map λ(n:Nat)=>(n:Int))=aY ms (i+1) (bif decide (s∈ms)then i else f) l;refine(a s<|.head _)▸?_
  induction p s with
  |true=>
   show nj f ((i:Int)::_)=_;show nj (if f<(i:Int)then(i:Int)else f) _=_
   exact(if_pos h)▸b (λs m=>a s<|.tail _ m) (c<|nU _)
  |false=>exact b (λs m=>a s<|.tail _ m)<|c<|UT h
theorem OQ(s:Nat):co s 0=decide (s∈[0]):=by
 induction q:co s 0 with
 |true=>rw[ii q];rfl
 |false=>exact(decide_eq_false λh=>bG q<|wP.mp h).symm
theorem E8:∀{s:Nat},s<3->(!co s 0)=decide (s∈[2,1])
 |0,_=>rfl
 |1,_=>rfl
 |2,_=>rfl
 |n+3,h=>absurd h<|iF.mpr<|ut 3 n
section
variable{g:List GO} {es:List (Nat×Nat)}
def Wd(g:List GO)(es:List (Nat×Nat))(o:Option (Nat×Nat)):St:=⟨[some<|.v<|.lst<|ab es,none,none,none,none,none,none,none,none,none,none,o.map λe=>ae e.1,o.map λe=>ae e.2,none,none],g⟩
theorem zg(a:es.length<az):Ok (λf=>f.e (.comp (.v 12) [(.ns [11,12],(.v 0),[])])<|Wd g es none) (.ml none<|iv<|es.map py,Wd g es none):=by
 refine fN (pF (v:=eN) (F:=λe=>ae (e.2:Nat)) (p:=λ_=>true) (after:=Wd g es) (own:=[11,12]) (elt:=.v 12) (t:=.ns [11,12]) (cs:=[]) (λ_ _=>rfl) (l:=es) (out:=[]) (o:=none) (by rw[tz,ss];exact a) (λ_ _=>d9) λ_ _ _=>ke 5 []) λo h=>?_
 rw[cn.mpr λ_ _=>rfl,GM]at h;have e:es.map (λe=>(RV.v<|.int (e.2:Nat)).eJ)=iv (es.map py):=by delta iv;rw[bD];rfl
 rw[e]at h;exact eH (t:=.ns [11,12]) (i:=0) (s:=Wd g es none) (s':=Wd g es o) (y:=.lst<|ab es) (src:=.l<|ab es) rfl rfl h
end
def Dq(g:List GO)(c:List (Nat×Nat))(r:List (Option RV))(b a:Option RV):St:=⟨some (.v<|.lst<|ab c)::some (.ml none<|iv<|c.map py)::(r++[none,none,b,a]),g⟩
section
variable{es:List (Nat×Nat)}
theorem Qi{q:Nat}:aS g .In (ae q) (.ml o<|iv a)=some (decide<|q∈a):=by
 have:aS g .In (ae q) (dQ<|iv a)=_:=t4
 exact this
theorem DH(m k:Nat):decide ((m:Int)=(k:Int))=co m k:=(cX m k).trans (by
 induction e:co m k with
 |true=>exact decide_eq_true<|ii e
 |false=>exact decide_eq_false (bG e))
theorem PW(b:k<es.length):∃s,(es.map py)[k]?=some s/\∀o,gy g (.ml o<|iv<|es.map py) (.int (k:Int))=some (.int (s:Int)):=by
 have e:(es.map py)[k]?=some ((es[k]).2):=H1.trans<|congrArg _<|At b
 refine⟨_,e,λo=>?_⟩;have a:(iv<|es.map py)[k]?=some (.int (((es[k]).2:Nat):Int)):=by delta iv;exact H1.trans<|congrArg _ e
 exact bI (fU a) a
theorem M6(u:es.length<=10):Ok (λF=>F.e (.bi .max<|.bin .Add (.lst [.neg bJ])<|.comp (.v 13) [(.v 13,.bi .range<|.bi .len<|.v 1,[.cmp .Eq (.sub (.v 1)<|.v 13) aH])])<|Dq g es [a,b,c,d,e,f,h,i,j] none none) (ae<|aY [0] 0 (-1)<|es.map py,Dq g es [a,b,c,d,e,f,h,i,j] none none):=by
 have r:(es.map py).length=es.length:=im _;obtain⟨o,H⟩:=pF (v:=λq:Nat=>.int (q:Int)) (F:=λq=>ae q) (p:=λk=>(es.map py)[k]?.any (co · 0)) (after:=λo=>Dq g es [a,b,c,d,e,f,h,i,j] (on o) none) (own:=[13]) (elt:=.v 13) (t:=.v 13) (cs:=[.cmp .Eq (.sub (.v 1)<|.v 13) aH]) (λ_ _=>rfl) (l:=Db es.length) (out:=[]) (o:=none) (by rw[tz,ss,ba];exact ac u (by decide)) (λk y=>jk (by
   refine aO (PW (g:=g)<|bS.mp y) λs A z=>?_
   exact A▸kb 5 [op (z none),ob (eT (g:=g) (m:=s) (k:=0))])) (λ_ _ _=>ke 5 [])
 rw[GM,show(Db es.length).filter (λk=>(es.map py)[k]?.any (co · 0))=places (co · 0) 0 (es.map py) from r▸og _]at H
 have C:=fR (t:=.v 13) (s:=Dq g es [a,b,c,d,e,f,h,i,j] none none) (s1:=Dq g es [a,b,c,d,e,f,h,i,j] none none) (cs:=[.cmp .Eq (.sub (.v 1)<|.v 13) aH]) (it:=.bi .range<|.bi .len<|.v 1) (x:=.v<|.iH (es.length:Nat)) rfl (ke 5 [ov<|show uK g .len (.ml none<|iv<|es.map py)=some (ae (es.length:Nat)) from congrArg (λn:Nat=>some<|RV.v<|.int n)<|(aJ _).trans r,ov<|fH (g:=g) u]) dt H
 have w:(places (co · 0) 0<|es.map py).length<=10:=by rw[<-og];exact am (aT _ _)<|ba▸r▸u
 refine pH (x:=.ml none<|[.int (-1)]++iv (places (co · 0) 0<|es.map py)) rfl (ke 8 [ox C,ov<|mC (g:=g) (l:=[.int (-1)]) (m:=iv<|places (co · 0) 0<|es.map py) (by rw[aJ];exact am (db w _) (by decide))]) ?_
 refine bI (x:=(-1)::(places (co · 0) 0<|es.map py).map λ(n:Nat)=>(n:Int)) (bI (x:=.int (-1)::iv (places (co · 0) 0<|es.map py)) rfl ?_) ?_
 .show jo _ (intsOf<|iv _)=_
  exact mI (pL _) rfl
 exact congrArg (λx=>some<|RV.v<|.int x)<|tK (λs _=>OQ s) (by decide)
theorem M7(u:es.length<=10)(A:∀e∈es,e.2<3)(C:∃x l,places (λs=>!co s 0) 0 (es.map py)=x::l):Ok (λF=>F.e (.bi .max<|.comp (.v 14) [(.v 14,.bi .range<|.bi .len<|.v 1,[.cmp .NotEq (.sub (.v 1)<|.v 14) aH])])<|Dq g es [a,b,c,d,e,f,h,i,j] none none) (ae<|j9 es,Dq g es [a,b,c,d,e,f,h,i,j] none none):=by
 have r:(es.map py).length=es.length:=im _;obtain⟨o,H⟩:=pF (v:=λq:Nat=>.int (q:Int)) (F:=λq=>ae q) (p:=λk=>(es.map py)[k]?.any λs=>!co s 0) (after:=λo=>Dq g es [a,b,c,d,e,f,h,i,j] none<|on o) (own:=[14]) (elt:=.v 14) (t:=.v 14) (cs:=[.cmp .NotEq (.sub (.v 1)<|.v 14) aH]) (λ_ _=>rfl) (l:=Db es.length) (out:=[]) (o:=none) (by rw[tz,ss,ba];exact ac u (by decide)) (λk y=>jk (by
   refine aO (PW (g:=g)<|bS.mp y) λs E D=>?_
   exact E▸kb 5 [op (D none),ob (xH (g:=g) (congrArg (!·) (DH s 0)))])) (λ_ _ _=>ke 5 [])
 rw[GM,show(Db es.length).filter (λk=>(es.map py)[k]?.any λs=>!co s 0)=places (λs=>!co s 0) 0 (es.map py) from r▸og _]at H;have I:=fR (t:=.v 14) (s:=Dq g es [a,b,c,d,e,f,h,i,j] none none) (s1:=Dq g es [a,b,c,d,e,f,h,i,j] none none) (cs:=[.cmp .NotEq (.sub (.v 1)<|.v 14) aH]) (it:=.bi .range<|.bi .len<|.v 1) (x:=.v<|.iH (es.length:Nat)) rfl (ke 5 [ov<|show uK g .len (.ml none<|iv<|es.map py)=some (ae (es.length:Nat)) from congrArg (λn:Nat=>some<|RV.v<|.int n)<|(aJ _).trans r,ov<|fH (g:=g) u]) dt H
 refine pH rfl I ?_;have m:=tK (ms:=[2,1]) (p:=λs=>!co s 0) (l:=es.map py) (i:=0) (f:= -1) (λs w=>by refine aO (to.mp w) λe z q=>?_;exact q▸E8 (A e z)) (by decide)
 refine jF C λx l q=>?_;rw[q]at m⊢;refine bI (x:=(x::l).map λ(n:Nat)=>(n:Int)) (bI (x:=iv<|x::l) rfl<|pL _) ?_
 refine congrArg (λx=>some<|RV.v<|.int x)<|Eq.trans ?_ m
 show nj (x:Int) _=nj (if(-1:Int)<x then(x:Int)else -1) _
 rw[if_pos<|Int.lt_of_lt_of_le (by decide)<|Do x]
end
section
variable{g:List GO} {es:List (Nat×Nat)}
theorem H6:∀{m i},bX a i (l++m)=bX a i l++bX a (i+l.length) m:=by
 induction l with
 |nil=>exact@λ_ _=>rfl
 |cons e l b=>intro m i;show _::bX a (i+1) (l++m)=_::(bX a (i+1) l++bX a (i+(l.length+1)) m);rw[b,wn,wp 1]
def Sr(g:List GO)(es:List (Nat×Nat))(n:Nat)(a:Int)(b:List (Nat×Nat))(o:Option (Nat×(Nat×Nat)×Bool)):St:=Dq g es [some<|ae (n:Nat),some<|ae a,some<|.ml none<|ab b,o.map λx=>ae (x.1:Nat),o.map λx=>ae (x.2.1.1:Nat),o.map λx=>ae (x.2.1.2:Nat),o.map λx=>dj x.2.2,none,none] none none
theorem Nm(s:es.length<=10)(r:∀e∈es,e.1<8192):∀{td o},es=td++(tr++rest)->∃d,Ok (λf=>bb (forTurn f (.v 5)<|lb YW 4) (iv<|IN td.length tr.length)<|Sr g es n need (bX need 0 td) o) (none,Sr g es n need (bX need 0<|td++tr) d):=by
 induction tr with
 |nil=>exact λ{td o} _=>⟨o,by rw[u8];exact cT⟩
 |cons e tr q=>
  intro td o c;have u:es=(td++[e])++(tr++rest):=by rw[c,sK];rfl
  refine fN (q (o:=some (td.length,e,co e.2 1&&decide ((td.length:Int)<need))) u) λd h=>?_;rw[ch,sK]at h;have i:gy g (.v<|.lst<|ab es) (.int (td.length:Int))=some (eN e):=r9<|gz (tr:=tr++rest) c
  have t:=r e<|c▸br _ (.head _)
  have tl:td.length<az:=bh (ac (by rw[c,ch];exact pp _ _)<|gY s) (by decide)
  refine⟨d,aQ (l:=iv<|IN (td.length+1) tr.length) ?_ h⟩
  rw[H6];have p:(bX need 0 td).length=td.length:=mU;have a:Ok (λF=>F.e (.and [(.cmp .Eq (.v 7) bJ),(.cmp .Lt (.v 5)<|.v 3)])<|Dq g es [some<|ae (n:Nat),some<|ae need,some<|.ml none<|ab<|bX need 0 td,some<|ae (td.length:Nat),some<|ae (e.1:Nat),some<|ae (e.2:Nat),o.map λx=>dj x.2.2,none,none] none none) (dj<|co e.2 1&&decide ((td.length:Int)<need),_):=ow (ke 5 [ob<|eT (g:=g) (m:=e.2) (k:=1)]) (ke 5 [ob (o:=aS g .Lt (ae (td.length:Nat))<|ae need) rfl])
  have j:∀(x:Nat×Nat)(b:Bool),uJ (Sr g es n need (bX need 0 td)<|some (td.length,e,b)) .append (.pl 4) [eN x]=some (.v .none,Sr g es n need (bX need 0 td++[x])<|some (td.length,e,b)):=λx b=>eU rfl (aC▸p▸tl) (by rw[show ab (bX need 0 td)++[eN x]=ab (bX need 0 td++[x]) by delta ab;rw[AC];rfl];rfl)
  show oF _ _ _ _ (Sr g es n need (bX need 0 td++[bif co e.2 1&&decide (((0+td.length:Nat):Int)<need)then(au<|orM [e.1,512],0)else e]) _)
  rw[ss];revert a;induction(co e.2 1&&decide ((td.length:Int)<need))with
  |true=>intro a;rw[cw,cw,show orM []=0 from rfl,fE];exact kt 12 [op i,ox a,od,ov<|H' (g:=g) (m:=e.1) (k:=512),oc<|qT g<|kD (n:=13) t (by decide:512<2^13),om<|j (au<|e.1|||512,0) true]
  |false=>intro a;exact kt 12 [op i,ox a,od,om<|j e false]
end
section
variable{g:List GO} {es:List (Nat×Nat)} {a b c d h i:Option RV}
def l2S(g:List GO)(es:List (Nat×Nat))(a b c d h i:Option RV)(m:Nat)(e o7:Option RV):St:=Dq g es [a,b,c,d,e,o7,h,i,ni m] none none
theorem Nl:∀{m o6 o7},∃n j,Ok (λf=>bb (forTurn f (.ns [6,7])<|lb YW 8) (ab l)<|l2S g es a b c d h i m o6 o7) (none,l2S g es a b c d h i (m|||orM (l.map iS)) n j):=by
 induction l with
 |nil=>exact@λm o6 o7=>⟨o6,o7,by rw[jq,show orM []=0 from rfl,fE];exact cT⟩
 |cons e l o=>
  intro m o6 o7;refine jF (o (m:=m|||iS e) (o6:=ni e.1) (o7:=ni e.2)) λn j H=>?_
  rw[cg,<-cw]at H;refine⟨n,j,aQ (l:=ab l) ?_ H⟩;delta iS;have q:=eT (g:=g) (m:=e.2) (k:=1);revert q;induction co e.2 1 with
  |true=>exact λq=>kt 12 [ob q,ov<|H' (g:=g) (m:=e.1) (k:=512),oi<|BJ (m:=m) (k:=e.1|||512)]
  |false=>exact λq=>kt 12 [ob q,ov<|H' (g:=g) (m:=e.1) (k:=0),oi<|BJ (m:=m) (k:=e.1|||0)]
theorem mn:decide (2∈es.map py)=qY es:=by
 induction q:qY es with
 |true=>refine aO (P3.mp q) λx f e=>?_;exact decide_eq_true<|ii e▸f
 |false=>exact decide_eq_false λh=>by rw[show qY es=true from P3.mpr ⟨2,h,rfl⟩]at q;exact ff q.symm
theorem Qo:∀{l:List Nat},l.any (co · 2)=true->(l.map λ(n:Nat)=>(n:Int)).findIdx? (· ==2)=some (l.findIdx (co · 2))
 |s::l,h=>by
  have e:((s:Int)==2)=co s 2:=DH s 2;rw[xL,jC,rq,e];have h:(co s 2||l.any (co · 2))=true:=h
  revert h;induction co s 2 with
  |true=>exact λ_=>rfl
  |false=>intro h;rw[Qo h];rfl
theorem ix2(e:qY es=true)(h:s.get 1=some (.ml none<|iv<|es.map py)):uJ s .index (.pl 1) [.int 2]=some (ae (jR es:Nat),s):=by refine bI h ?_;exact bI (pL _)<|mI (Qo e) rfl
theorem J0{l:List (Nat×Nat)}(h:∀e∈l,e.1<8192):orM (l.map iS)<8192:=by
 induction l with
 |nil=>exact(by decide:0<8192)
 |cons e l f=>
  rw[xL,cw];refine kD (n:=13) (kD (n:=13) (h e<|.head _) ?_)<|f λe m=>h e<|.tail _ m
  induction co e.2 1<;>exact(ut ..)
theorem EW:∀{i},l.any p=true->∃x t,places p i l=x::t:=by
 induction l with
 |nil=>exact λh=>nomatch h
 |cons s l e=>
  intro i;show(p s||l.any p)=true->∃x t,(bif p s then i::places p (i+1) l else places p (i+1) l)=x::t
  induction p s with
  |true=>exact λ_=>⟨_,_,rfl⟩
  |false=>exact λh=>e h
theorem Iz(h:qY es=true):∃k:Nat,j9 es=(k:Nat)/\k<es.length/\jR es<=k:=by
 refine sA λC p=>?_;refine Et (oy h) λA e B o r t q=>?_;have s:j9 es=aY [2,1] (A.length+1) A.length (B.map py):=by delta j9;rw[o,AC,vA,im,xL,r,ss];rfl
 have m:es.length=A.length+(B.length+1):=(congrArg _ o).trans ch;refine p ?_;rw[s,q,m];rcases pC (ms:=[2,1]) (l:=B.map py) (i:=A.length+1) (f:=A.length)with h|⟨j,n,h⟩
 .exact⟨_,h,gK<|wv _,v6 _⟩
 .rw[im]at n;exact⟨_,h,by rw[wn,wp 1];exact fY (lC n) _,am (Tm _)<|pp _ j⟩
theorem SO(p:es.length<=10)(C:∀e∈es,e.1<8192)(O:∀e∈es,e.2<3):ai 70 [.v<|.lst<|ab es] g (.ml none<|ab<|vB es) [none] g:=by
 have t:=λ(a:Option RV)=>M6 (g:=g) (a:=a) (b:=none) (c:=none) (d:=none) (e:=none) (f:=none) (h:=none) (i:=none) (j:=none) p;have E:∀n,n<=es.length->∃o,Kl (.v 5) (lb YW 4) (.l<|iv<|Db n) (Sr g es n (aY [0] 0 (-1)<|es.map py) [] none) .dK<|Sr g es n (aY [0] 0 (-1)<|es.map py) (bX (aY [0] 0 (-1)<|es.map py) 0<|es.take n) o:=λn t=>by
  refine fN (Nm (g:=g) (es:=es) (n:=n) (need:=aY [0] 0 (-1)<|es.map py) (tr:=es.take n) (rest:=es.drop n) (td:=[]) (o:=none) p C (Ax n es).symm) λo H=>?_
  rw[cV,dG t,show IN (List.length ([]:List (Nat×Nat))) n=Db n from(WP ..).symm]at H;exact⟨o,cz (src:=.l _) H⟩
 delta vB;induction q:qY es with
 |false=>
  have w:aS g .In (ae 2) (.ml none<|iv<|es.map py)=some false:=Qi.trans<|congrArg some<|mn.trans q
  have u:aS g .NotIn (ae 2) (.ml none<|iv<|es.map py)=some true:=j6.trans<|congrArg (λb=>some<|!b)<|mn.trans q
  have R:jR es=es.length:=(Ai.mpr λx m=>by
   induction r:co x 2 with
   |false=>rfl
   |true=>rw[show qY es=true from P3.mpr ⟨x,m,r⟩]at q;exact q).trans (im _)
  refine fN (E es.length<|v6 _) λo H=>?_
  rw[R,cond_false,u8];exact kf 20 [ox<|zg (g:=g)<|ac p (by decide),ob w,ov<|show uK g .len (.ml none<|iv<|es.map py)=some (ae (es.length:Nat)) from congrArg (λn:Nat=>some<|RV.v<|.int n)<|(aJ _).trans<|im _,ox<|t<|ni es.length,ov<|fH (g:=g) p,ol H,ob u]
 |true=>
  have w:aS g .In (ae 2) (.ml none<|iv<|es.map py)=some true:=Qi.trans<|congrArg some<|mn.trans q
  have u:aS g .NotIn (ae 2) (.ml none<|iv<|es.map py)=some false:=j6.trans<|congrArg (λb=>some<|!b)<|mn.trans q
  refine eV (Iz q) λk D kl P=>?_;have y:=am P<|ck kl
  obtain⟨o,H⟩:=E (jR es) y;have A:=λ(o:Option (Nat×(Nat×Nat)×Bool))=>M7 (g:=g) (a:=ni<|jR es) (b:=some<|ae<|aY [0] 0 (-1)<|es.map py) (c:=some<|.ml none<|ab<|bX (aY [0] 0 (-1)<|es.map py) 0<|es.take<|jR es) (d:=o.map λx=>ae (x.1:Nat)) (e:=o.map λx=>ae (x.2.1.1:Nat)) (f:=o.map λx=>ae (x.2.1.2:Nat)) (h:=o.map λx=>dj x.2.2) (i:=none) (j:=none) p O<|EW<|P3.mpr ⟨2,of_decide_eq_true<|mn.trans q,rfl⟩
  rw[D]at A;rw[D,cond_true,show Ak (k:Nat)=k from rfl];refine jF (Nl (g:=g) (es:=es) (a:=ni<|jR es) (b:=some<|ae<|aY [0] 0 (-1)<|es.map py) (c:=some<|.ml none<|ab<|bX (aY [0] 0 (-1)<|es.map py) 0<|es.take<|jR es) (d:=o.map λx=>ae (x.1:Nat)) (h:=o.map λx=>dj x.2.2) (i:=ni k) (l:=(es.take<|k+1).drop<|jR es) (m:=0) (o6:=o.map λx=>ae (x.2.1.1:Nat)) (o7:=o.map λx=>ae (x.2.1.2:Nat))) λU T I=>?_
  rw[eP]at I;have L:ya g (.v<|.lst<|ab es) (some<|.int (jR es:Nat)) (some<|.int ((k+1:Nat):Int))=some (.ml none<|ab<|(es.take<|k+1).drop<|jR es):=(Hq (aC▸y)<|aC▸kl).trans (by rw[mR,j3])
  have J:ya g (.v<|.lst<|ab es) (some<|.int ((k+1:Nat):Int)) none=some (.ml none<|ab<|es.drop<|k+1):=(PA<|aC▸kl).trans (by rw[j3])
  have kb:=qT g<|J0 (l:=(es.take<|k+1).drop<|jR es) λe m=>C e<|fw<|nw m
  generalize au (orM<|((es.take<|k+1).drop<|jR es).map iS)=B at kb⊢
  generalize M:bX (aY [0] 0 (-1)<|es.map py) 0 (es.take<|jR es)=N at*
  have z:N.length<=10:=by rw[<-M,mU,cV];exact am (eD _ _) p
  have dl:(es.drop<|k+1).length<=10:=am (eB▸lL _ _) p
  have S:hK g .Add (.ml none<|ab N) (.ml none<|ab [(B,2)])=some (.ml none<|ab N++ab [(B,2)]):=mC (by rw[aC,aC];exact am (lf z 1) (by decide))
  have F:hK g .Add (.ml none<|ab N++ab [(B,2)]) (.ml none<|ab<|es.drop<|k+1)=some (.ml none<|(ab N++ab [(B,2)])++ab (es.drop<|k+1)):=mC (by rw[ch,aC,aC,aC];exact am (TE (lf z 1) dl) (by decide))
  have Q:(ab N++ab [(B,2)])++ab (es.drop<|k+1)=ab (N++(B,2)::es.drop (k+1)):=by delta ab;rw[sK,AC];rfl
  rw[Q]at F;exact kf 20 [ox<|zg (g:=g)<|ac p (by decide),ob w,om<|ix2 (s:=Dq g es [none,none,none,none,none,none,none,none,none] none none) q rfl,ox<|t<|ni<|jR es,ov<|fH (g:=g)<|am y p,ol H,ob u,ox<|A o,od,ov L,ol<|cz (src:=.l _) I,oc kb,ov S,od,ov J,ov F]
end
inductive KF{b:Type}(R:List PV)(code:b->Nat)(F:Nat->b->PV)(w:PV)(a:b):Prop
 |mk (u:Nat) (e:w=F u a) (h:KX R (code a) u):KF R code F w a
inductive KnE{b:Type}(R:List PV)(L:List GO)(c:Nat)(code:b->Nat)(F:Nat->b->PV)(a:List GO->Option b->St)(i:List b)(d:List PV)(H:List PV×St->Prop):Prop
 |mk (f:List PV) (S:List PV) (o:Option b) (e:H (d++f,a (G S L) o)) (g:dU R c S) (h:bc (KF S code F) f i):KnE R L c code F a i d H
section
variable{ks vs:List PV} {v:α->PV} {code:α->Nat} {F:Nat->α->PV} {after:List GO->Option α->St} {own:List Nat} {elt:Ex} {t:Tg}
theorem KF.up {a:α} (h:KF R code F w a) (g:dU R c S):KF S code F w a:=by obtain⟨u,e,h⟩:=h;exact⟨u,e,bz.up h g⟩
theorem so(P)(d:∀R out o,P (out,after (G R L) o))(r:WD ks vs)(y:∀g a o,bY t (v a) (after g o)=some (after g<|some a))(w:∀(R S:List PV)(a:α)(u:Nat),ai 67 [wm ks vs,ae<|cI<|code a] (G R L) (ae u) [some<|wm ks vs,none] (G S L)->Ok (λf=>f.e elt<|after (G R L)<|some a) (.v<|F u a,after (G S L)<|some a)){es}:∀{out o R},(∀e∈es,code e<8194)->out.length+es.length<az->R.length+es.length<az->KnE R L es.length code F after es out λz=>Lp (λf=>compTurn f own elt t []) P (es.map v) (out,after (G R L) o) (none,z):=by
 induction es with
 |nil=>exact@λout o R _ _ _=>⟨[],R,o,by rw[u8];exact .nil (d ..),.refl,.nil⟩
 |cons a es p=>
  intro out o R c s x;have q:=jU s;have b:=jU x;obtain⟨u,S,e,g,k⟩:=Nx (L:=L) r b.1<|c a<|.head _
  obtain⟨l,T,n,j,i,h⟩:=p (out:=out++[F u a]) (o:=some a) (R:=S) (λe m=>c e<|.tail _ m) (ch▸q.2.2)<|ac (lf g.len _) b.2.2
  rw[sK]at j;exact⟨F u a::l,T,n,.cons (d ..) (fV (y _ a o) d9 q.1<|w R S a u e) j,(g.trans i).up<|EQ (wp ..),.cons (KF.up ⟨u,rfl,k⟩ i) h⟩
end
def gD(e:Nat×Nat):PV:=.tup [.int<|cI e.1,.int e.2]
theorem Bn(h:∀e∈es,e.1<8192):es.map gD=ab es:=ej λe m=>by have q:=h e m;delta gD eN cI;rw[show co e.1 8192=false from Uf.mpr λh=>absurd (ii h)<|bF q,show co e.1 8193=false from Uf.mpr λh=>absurd (ii h)<|bF<|kF q];rfl
theorem xb(h:bc (KF R Pv λu e=>eN (u,e.2)) b c):∃a,b=ab a/\EX R a c:=by
 induction h with
 |nil=>exact⟨[],rfl,.nil⟩
 | @cons w e b c h _ d=>refine aO d λa j g=>?_;obtain⟨u,i,f⟩:=h;exact⟨(u,e.2)::a,by rw[j,i];rfl,.cons ⟨f,rfl⟩ g⟩
def Dd(row:List (Nat×Nat)):Bool:=bx row.length 10&&(row.all (λe=>SL e.1 8194)&&(rQ row||row.all λe=>SL e.1 8192&&co (au e.1) e.1&&SL e.2 3))
theorem IA:∀{i f},decide (aY a i f l<0)=(decide (f<0)&& !l.any λs=>decide<|s∈a):=by
 induction l with
 |nil=>exact@λ_ f=>(xX _).symm
 |cons s l b=>
  intro i f;show decide (aY a (i+1) (bif decide (s∈a)then i else f) l<0)=(decide (f<0)&& !(decide (s∈a)||l.any λs=>decide<|s∈a))
  refine b.trans ?_;induction decide (s∈a)with
  |true=>show(decide ((i:Int)<0)&&_)=_;rw[decide_eq_false<|eQ.mpr<|Do i,Bool.true_or,cS,bp];rfl
  |false=>rfl
theorem zz:decide (3∈a.map py)=rQ a:=by
 delta rQ;rw[IA];show _= !(true&& !(a.map py).any λs=>decide<|s∈[3])
 rw[fZ,Bool.not_not];induction q:(a.map py).any λs=>decide (s∈[3])with
 |true=>refine aO (P3.mp q) λx h e=>?_;exact decide_eq_true<|wP.mp (of_decide_eq_true e)▸h
 |false=>exact decide_eq_false λh=>by rw[P3.mpr ⟨3,h,rfl⟩]at q;exact ff q.symm
theorem IC:(vB a).length<=a.length:=by
 delta vB;rw[ch,mU,cV];induction q:qY a with
 |false=>exact eD _ _
 |true=>
  refine eV (Iz q) λk c kl b=>?_;refine c▸(show Ak (k:Nat)=k from rfl)▸?_;show _+((a.drop<|k+1).length+1)<=_
  exact eB▸am (lf (am (uP _ _) b) _) (by rw[wp _ 1,<-wn];exact EQ<|F9 kl)
section
variable{R:List PV} {L:List GO} {ks vs:List PV} {es:List (Nat×Nat)} {ro:Nat} {g:List GO}
def Wh(ks vs:List PV)(x:Option RV)(ro:Nat)(a b:Option RV)(g:List GO)(o:Option (Nat×Nat)):St:=⟨[some<|wm ks vs,x,ni ro,a,b,o.map λe=>ae<|cI e.1,o.map λe=>ae (e.2:Nat)],g⟩
def Wi(ks vs:List PV)(x:Option RV)(ro:Nat)(g:List GO)(o:Option (Nat×Nat)):St:=⟨[some<|wm ks vs,x,ni ro,o.map λe=>ae<|cI e.1,o.map λe=>ae (e.2:Nat),none,none],g⟩
theorem Ir(a:es.length<az):Ok (λf=>f.e (.comp (.v 4) [(.ns [3,4],(.v 1),[])])<|Wi ks vs (some<|.v<|.lst<|es.map gD) ro g none) (.ml none<|iv<|es.map py,Wi ks vs (some<|.v<|.lst<|es.map gD) ro g none):=by
 refine fN (pF (v:=gD) (F:=λe=>ae (e.2:Nat)) (p:=λ_=>true) (after:=Wi ks vs (some<|.v<|.lst<|es.map gD) ro g) (own:=[3,4]) (elt:=.v 4) (t:=.ns [3,4]) (cs:=[]) (λ_ _=>rfl) (l:=es) (out:=[]) (o:=none) (by rw[tz,ss];exact a) (λ_ _=>d9) λ_ _ _=>ke 5 []) λo h=>?_
 rw[cn.mpr λ_ _=>rfl,GM]at h;have e:es.map (λe=>(RV.v<|.int (e.2:Nat)).eJ)=iv (es.map py):=by delta iv;rw[bD];rfl
 rw[e]at h;exact eH (t:=.ns [3,4]) (i:=1) (s:=Wi ks vs (some<|.v<|.lst<|es.map gD) ro g none) (s':=Wi ks vs (some<|.v<|.lst<|es.map gD) ro g o) (y:=.lst<|es.map gD) (src:=.l<|es.map gD) rfl rfl h
inductive LiE(R:List PV)(L:List GO)(c:Nat)(es:List (Nat×Nat))(st:List GO->St)(x:Ex):Prop
 |mk (a:List (Nat×Nat)) (S:List PV) (e:Ok (λf=>f.e x<|st<|G R L) (.ml none<|ab a,st<|G S L)) (g:dU R c S) (h:EX S a es):LiE R L c es st x
theorem Dr(d:WD ks vs)(i:∀e∈es,e.1<8194)(b:es.length<=10)(j:R.length+10<az):KnE R L es.length Pv (λu e=>eN (u,e.2)) (Wh ks vs x ro none none) es [] λz=>Ok (λf=>bb (compTurn f [5,6] (.tup [(.call 67 [(.v 0),(.v 5)]),(.v 6)]) (.ns [5,6]) []) (es.map gD) ([],Wh ks vs x ro none none (G R L) none)) (none,z):=by
 obtain⟨c,S,o,e,g,h⟩:=so (own:=[5,6]) (elt:=.tup [(.call 67 [(.v 0),(.v 5)]),(.v 6)]) (t:=.ns [5,6]) (v:=gD) (code:=Pv) (F:=λu e=>eN (u,e.2)) (after:=Wh ks vs x ro none none) (es:=es) (out:=[]) (o:=none) (R:=R) (L:=L) (λ_=>True) (λ_ _ _=>trivial) d (λ_ _ _=>rfl) (λR S a u h=>ke 9 [oc h]) i (by rw[tz,ss];exact ac b (ut ..))<|ac (db b _) j
 exact⟨c,S,o,e.Vn,g,h⟩
theorem SN(hT:Tb R)(d:WD ks vs)(ho:Dd es=true)(H:R.length+20<az):u7 71 [wm ks vs,.v<|.lst<|es.map gD,ae (ro:Nat)] [some<|wm ks vs,none,none] R L 11 (G0 ro es):=by
 refine aE ho λO D=>aE D λD I=>?_;have w:=io O;have hm:∀e∈es,e.1<8194:=λe m=>io<|bv.mp D e m
 have r:R.length+10<az:=ac (db (by decide) _) H
 have C:=Ir (g:=G R L) (ks:=ks) (vs:=vs) (ro:=ro) (ac w (by decide):es.length<az)
 have a:aS (G R L) .NotIn (ae (3:Nat)) (.ml none<|iv<|es.map py)=some (!rQ es):=j6.trans<|congrArg (λb=>some<|!b) zz
 delta G0;induction q:rQ es with
 |true=>
  rw[q]at a;obtain⟨W,S,o,e,g,h⟩:=Dr (L:=L) (ro:=ro) (x:=some<|.v<|.lst<|es.map gD) d hm w r
  obtain⟨A,rfl,N⟩:=xb h;rw[GM]at e;have c:=eH (t:=.ns [5,6]) (i:=1) (s:=Wh ks vs (some<|.v<|.lst<|es.map gD) ro none none (G R L) none) (y:=.lst<|es.map gD) (src:=.l<|es.map gD) rfl rfl e
  refine ju (qz (L:=L) (ro:=ro) N<|ac (am (g.up w).len<|db (by decide) _) H) λt T E z k=>?_
  exact⟨t,T,kf 20 [ox C,ob a,op<|d.tab (G R L)<|some 0,ox<|pH (b:=.tuple) (y:=dQ<|ab A) rfl c rfl,oc E],(g.trans z).up<|lf w 1,k⟩
 |false=>
  replace a:=q▸a;rw[q,Os]at I;have f1:=bv.mp I;have p:∀e∈es,e.1<8192:=λe m=>aE (f1 e m) λh _=>aE h λh _=>io h;have hs:∀e∈es,e.2<3:=λe m=>aE (f1 e m) λ_ h=>io h;have Q:=Ni (es:=es) λe m=>aE (f1 e m) λh _=>aE h λ_ h=>ii h;have j:=SO (g:=G R L) w p hs;replace j:=Q▸(Bn p)▸j;have F:=Q7 p;have tl:=Q▸am IC w;rw[cond_false];generalize Pq es=f at j F tl;have Y:C8 f=false->u7 71 [wm ks vs,.v<|.lst<|es.map gD,ae (ro:Nat)] [some<|wm ks vs,none,none] R L 11 (.tup f ro):=λn=>by
   obtain⟨W,S,o,e,g,h⟩:=Dr (L:=L) (ro:=ro) (es:=f) (x:=none) d (λe m=>Ev (F e m) (by decide)) tl r
   refine aO (xb h) λA J N=>?_;subst J;rw[GM,Bn F]at e;have c:=mW (t:=.ns [5,6]) (i:=1) (s:=Wh ks vs (some<|.ml none<|ab f) ro none none (G R L) none) rfl rfl e
   refine ju (qz (L:=L) (ro:=ro) N<|ac (am (g.up tl).len<|db (by decide) _) H) λt T E z k=>?_
   have P:=(g.trans z).up<|lf tl 1
   match f,n,c with
   |[],_,c=>exact⟨t,T,kf 20 [ox C,ob a,oc j,od,od,op<|d.tab (G R L)<|some 0,ox<|pH (b:=.tuple) (y:=dQ<|ab A) rfl c rfl,oc E],P,k⟩
   |[x],n,c=>
    have M:aS (G R L) .Eq (ae (x.2:Nat)) (ae (2:Nat))=some false:=eT.trans<|congrArg some<|(fZ _).symm.trans n
    exact⟨t,T,kf 20 [ox C,ob a,oc j,od,od,od,od,ob M,op<|d.tab (G R L)<|some 0,ox<|pH (b:=.tuple) (y:=dQ<|ab A) rfl c rfl,oc E],P,k⟩
   |x::y::l,_,c=>
    have Z:aS (G R L) .Eq (ae ((ab<|x::y::l).length:Nat)) (ae (1:Nat))=some false:=eT
    exact⟨t,T,kf 20 [ox C,ob a,oc j,od,ob Z,op<|d.tab (G R L)<|some 0,ox<|pH (b:=.tuple) (y:=dQ<|ab A) rfl c rfl,oc E],P,k⟩
  delta Iq;induction n:C8 f with
  |false=>exact Y n
  |true=>match f,n with
   |[x],n=>
    have M:aS (G R L) .Eq (ae (x.2:Nat)) (ae (2:Nat))=some true:=eT.trans<|congrArg some<|(fZ _).symm.trans n
    have V:=F x<|.head _
    obtain⟨u,S,e,g,k⟩:=gE (L:=L) d (ac (pp _ _) r) V;have U:isKey 6 (.tup [.int 11,.int (u:Int),.int (ro:Int)])=true:=rfl;refine eV (gh (R:=S) U) λX O D I=>?_;have z:dU S 1 (oe S<|.tup [.int 11,.int (u:Int),.int (ro:Int)]).2:=O▸.mk X D
    exact⟨_,_,kf 20 [ox C,ob a,oc j,od,od,od,od,ob M,op<|d.tab (G R L)<|some 0,od,od,oc e,oc<|pD (L:=L) U<|ac (am g.len<|db (by decide) _) H],(g.trans z).up (by decide),u,bz.up k z,I⟩
end
noncomputable def KH(s:Str)(x:PV)(a:Nat):PV:=.tup [.str s,x,.int (a:Int)]
def G7(b:List (Nat×Nat))(a:Nat):PV:=KH ⟨#[40,41]⟩ (.tup<|b.map gD) a
def KI(m a:Nat):PV:=KH ⟨#[91,93]⟩ (.int (m:Int)) a
def Gf(m:Nat):PV:=KH ⟨#[109]⟩ (.int (m:Int)) 0
def YG:PV:=KH ⟨#[84]⟩ (.int 0) 0
def Zx(l:List PV):PV:=KH ⟨#[124]⟩ (.tup l) 0
noncomputable def Gm(b:List (Nat×Nat))(a:Nat):SD:=.lst<|.tup b a
noncomputable def Ng(m a:Nat):SD:=.lst<|.arr m a
def TM:List (PV×SP×List (List (Nat×Nat))):=[(Zx [G7 [(1,0)] 0,KI 4 0],.lI [Gm [(1,0)] 0,Ng 4 0],[[(1,0)],[(4,2)]]),(KI 4 0,.one<|Ng 4 0,[[(4,2)]]),(G7 [(1,0),(2,1)] 0,.one<|Gm [(1,0),(2,1)] 0,[[(1,0),(2,1)]]),(G7 [(32,2),(8,0)] 1,.one<|Gm [(32,2),(8,0)] 1,[[(32,2),(8,0)]]),(YG,.one .yT,[[(8192,3)]]),(G7 [(8192,3),(1,0)] 0,.one<|Gm [(8192,3),(1,0)] 0,[[(8192,3),(1,0)]]),(Gf 2048,.one .any,[[(2048,2)]]),(Gf 1,.one<|.atom 17,[[(4096,2)]]),(KH ⟨#[38]⟩ (.int 192) 0,.one<|.meet 192,[[(192,2)]]),(Gf 0,.never,[[(4096,2)]]),(Zx [KI 8 1,YG,Gf 1],.lI [Ng 8 1,.yT,.atom 17],[[(8,2)],[(8192,3)],[(4096,2)]]),(KH ⟨#[101]⟩ (.int 0) 0,.err,[[(0,2)]]),(G7 [] 0,.one<|Gm [] 0,[[]]),(Gf 192,.lI [.atom 8,.atom 9],[[(4096,2)]]),(KI 2 1,.one<|Ng 2 1,[[(2,2)]]),(G7 [(4,1)] 0,.one<|Gm [(4,1)] 0,[[(4,1)]]),(G7 [(1,0)] 0,.one<|Gm [(1,0)] 0,[[(1,0)]]),(KI 8 1,.one (Ng 8 1),[[(8,2)]])]
def dr(w:List (Nat×Nat)):PV:=.lst<|w.map gD
theorem GH(n)(g):(TM.map λa=>(ev FT CT<|n+30).call 69 [.v a.1] g)=TM.map λa=>some (.ml none<|a.2.2.map dr,[none],g):=by kernel_rfl
theorem SA(h:a∈TM):ai 69 [.v a.1] g (.ml none<|a.2.2.map dr) [none] g:=Aq (n:=30) λn=>by rw[dg];exact ww.mp (GH n g) a h
noncomputable def B5(a:SP):Option Nat:=match a with
 |.never=>some 2
 |.err=>some 13
 |_=>none
noncomputable def CD:List Nat:=[1,2,4,9,36,192,256,512,768,516,195,1024,2048,4096,0,24,8,32]
def wX(e:Nat×Nat):Bool:=(CD.contains e.1&&SL e.2 3)||(co e.1 8192&&co e.2 3)
theorem TH:(CD.all λc=>SL c 8192&&(co (au c) c&&(bx (af c).length 6&&bx (af<|au<|orM [c,512]).length 6)))=true:=by decide+kernel
theorem Vp:(TM.all λa=>a.2.2.all λw=>bx w.length 2&&w.all wX)=true:=by decide+kernel
theorem vW(h:CD.contains c=true):c<8192/\au c=c/\(af c).length<=6/\(af<|au<|orM [c,512]).length<=6:=aE (bv.mp TH c<|wf.mp h) λe h=>aE h λd h=>aE h λb a=>⟨io e,ii d,io b,io a⟩
theorem Qr(h:wX e=true):(CD.contains e.1=true/\e.2<3)\/e=(8192,3):=by delta wX at h;rw[Lg,fM,fM]at h;exact h.imp (λh=>⟨h.1,io h.2⟩) λh=>Cc (ii h.1)<|ii h.2
theorem CY(h:∀e∈a,wX e=true)(q:rQ a=false):∀e∈a,CD.contains e.1=true/\e.2<3:=λe m=>(Qr<|h e m).resolve_right λz=>by
 rw[<-zz,decide_eq_true<|show 3∈a.map py from to.mpr ⟨e,m,congrArg _ z⟩]at q
 exact ff q.symm
theorem HW(h:∀e∈a,wX e=true)(b:a.length<=10):Dd a=true:=by
 delta Dd;rw[bR b,fZ,show(a.all λe=>SL e.1 8194)=true from bv.mpr λe m=>bR<|(Qr<|h e m).elim (λz=>Ev (vW z.1).1 (by decide)) λz=>z▸(by decide:8192<8194),fZ]
 induction q:rQ a with
 |true=>rfl
 |false=>rw[Os];refine bv.mpr λe m=>?_;have z:=CY h q e m;have c:=vW z.1;rw[show SL e.1 8192=true from bR c.1,c.2.1,gZ,show SL e.2 3=true from bR z.2];rfl
theorem Jb{l:List Nat}(h:∀x∈l,(af x).length<=6):(l.map af).flatten.length<=6*l.length:=by
 induction l with
 |nil=>exact v6 _
 |cons x l a=>rw[xL,cf,ch,FB,cC,wp];exact TE (a λy m=>h y<|.tail _ m)<|h x<|.head _
theorem HV(h:∀e∈a,wX e=true)(d:a.length<=10):vr a=true:=by
 delta vr;rw[bR d,fZ];induction q:rQ a with
 |true=>rfl
 |false=>
  have z:=CY h q;rw[Os,show(a.all λe=>SL e.1 8192)=true from bv.mpr λe m=>bR (vW (z e m).1).1,fZ];refine(Lg _ _).mpr<|.inr<|bR ?_
  have f:(yX a).map eX=a.map eX:=vF;refine oN▸kG▸f▸kG▸oN▸?_;have g:((a.take<|(j9 a).toNat+1).drop (xp a).toNat).length<=10:=am (by rw[eB,cV];exact am (lL _ _)<|eD _ _) d
  refine ac (Jb λx i=>?_)<|ac (by rw[im];exact FS 6 g) (ut ..)
  refine aO (to.mp i) λe j b=>?_;subst b;have c:=vW (z e<|fw<|nw j).1
  delta eX;induction co e.2 1 with
  |true=>exact c.2.2.2
  |false=>exact c.2.2.1
section
variable{g:List GO} {r0 r1 r2 r3 r4:Option RV}
def FU(g:List GO)(r0 r1 r2 r3 r4:Option RV)(a b:Option RV)(c d:Option (List<|Nat×Nat)):St:=⟨[r0,r1,r2,r3,r4,a,b,c.map λw=>.v<|dr w,d.map λw=>.v<|dr w,none],g⟩
noncomputable def ER:Ex:=.bin .Add (.v 7)<|.v 8
theorem O2(h:a.length+b.length<=10):hK g .Add (.v<|dr a) (.v<|dr b)=some (.ml none<|(a++b).map gD):=by
 show O5 g (.v<|dr a) (.v<|dr b)=_
 exact AC▸bI (x:=a.map gD) rfl (bI (x:=b.map gD) rfl<|if_pos ⟨by rw[im,im];exact am h (ut ..),rfl⟩)
theorem XS{ws:List (List<|Nat×Nat)}(j:∀w∈ws,r.length+w.length<=10)(i:out.length+ws.length<az):∃b,Ok (λf=>KZ f [7,8] ER [(.v 8,.v 6,[])] (out,FU g r0 r1 r2 r3 r4 a (some<|.ml none<|ws.map dr) (some r) d)) (none,(out++(ws.map λw=>dr<|r++w),FU g r0 r1 r2 r3 r4 a (some<|.ml none<|ws.map dr) (some r) b)):=by
 refine fN (pF (v:=dr) (F:=λw=>.ml none<|(r++w).map gD) (p:=λ_=>true) (after:=FU g r0 r1 r2 r3 r4 a none<|some r) (own:=[7,8]) (elt:=ER) (t:=.v 8) (cs:=[]) (λ_ _=>rfl) (l:=ws) (out:=out) (o:=d) i (λ_ _=>d9) λw c _=>ke 5 [ov<|O2 (g:=g)<|j w c]) λb h=>?_
 rw[cn.mpr λ_ _=>rfl]at h;have k:(FU g r0 r1 r2 r3 r4 a (some<|.ml none<|ws.map dr) (some r) d).get 6=some (.ml none<|ws.map dr):=rfl
 refine⟨b,h.one λf e=>?_⟩;show eY f [7,8] (λ(s:List PV×St)=>s.2) (λst s=>(s.1,st)) (.v 6) (compTurn f [7,8] ER (.v 8) []) (out,FU g r0 r1 r2 r3 r4 a (some<|.ml none<|ws.map dr) (some r) d)=_
 delta eY;exact bI k<|(if_pos<|show([7,8]:List Nat).contains 6=false from rfl).trans<|mI e rfl
def c2T(f:iU)(x:PV)(s:List PV×St):Option (Option Unit×(List PV×St)):=(bY (.v 7) x s.2).bind λa=>(iQ f [] a).bind λc=>if c.1 then KZ f [7,8] ER [(.v 8,.v 6,[])] (s.1,c.2)else some (none,(s.1,c.2))
noncomputable def ij(a b:List (List<|Nat×Nat)):List (List<|Nat×Nat):=a.flatMap λr=>b.map (r++ ·)
theorem TL{ws rows}:∀{out c d},(∀r∈rows,∀w∈ws,r.length+w.length<=10)->out.length+(ij rows ws).length<az->∃h e,Ok (λf=>bb (c2T f) (rows.map dr) (out,FU g r0 r1 r2 r3 r4 a (some<|.ml none<|ws.map dr) c d)) (none,(out++(ij rows ws).map dr,FU g r0 r1 r2 r3 r4 a (some<|.ml none<|ws.map dr) h e)):=by
 induction rows with
 |nil=>exact@λout c d _ _=>⟨c,d,by show Ok _ (none,(out++[],_));rw[u8];exact .pure⟩
 |cons r rows k=>
  intro out c d i b;have j:ij (r::rows) ws=ws.map (r++ ·)++ij rows ws:=dH
  rw[j,ch,im]at b;obtain⟨q,n⟩:=XS (g:=g) (r0:=r0) (r1:=r1) (r2:=r2) (r3:=r3) (r4:=r4) (a:=a) (r:=r) (ws:=ws) (out:=out) (d:=d) (i r<|.head _)<|ac (db (pp _ _) _) b
  refine jF (k (out:=out++ws.map λw=>dr<|r++w) (c:=some r) (d:=q) (λr m=>i r<|.tail _ m) (by rw[ch,im,wn];exact b)) λh e l=>?_
  refine⟨h,e,?_⟩;rw[j,AC,bD,<-sK];exact n.two l λf p o=>dk (s':=(_,_)) p o
theorem NB(j:∀r∈rows,∀w∈ws,r.length+w.length<=10)(i:(ij rows ws).length<az):Ok (λf=>f.e (.comp ER [(.v 7,.v 5,[]),(.v 8,.v 6,[])])<|FU g r0 r1 r2 r3 r4 (some<|.ml none<|rows.map dr) (some<|.ml none<|ws.map dr) none none) (.ml none<|(ij rows ws).map dr,FU g r0 r1 r2 r3 r4 (some<|.ml none<|rows.map dr) (some<|.ml none<|ws.map dr) none none):=by
 refine jF (TL (g:=g) (r0:=r0) (r1:=r1) (r2:=r2) (r3:=r3) (r4:=r4) (a:=none) (ws:=ws) (rows:=rows) (out:=[]) (c:=none) (d:=none) j (by rw[tz,ss];exact i)) λm l h=>?_
 rw[GM]at h;have k:(FU g r0 r1 r2 r3 r4 (some<|.ml none<|rows.map dr) (some<|.ml none<|ws.map dr) none none).get 5=some (.ml none<|rows.map dr):=rfl
 refine Ok.up (h.one (H:=λf=>mv f ER [(.v 7,.v 5,[]),(.v 8,.v 6,[])] _) λf e=>?_) λn=>oz ..;have b:eY f [7,8] (λ(s:List PV×St)=>s.2) (λst s=>(s.1,clear [7,8] st)) (.v 5) (c2T f) ([],FU g r0 r1 r2 r3 r4 (some<|.ml none<|rows.map dr) (some<|.ml none<|ws.map dr) none none)=some (none,((ij rows ws).map dr,FU g r0 r1 r2 r3 r4 (some<|.ml none<|rows.map dr) (some<|.ml none<|ws.map dr) none none)):=by delta eY;exact bI k<|(if_pos<|show([7,8]:List Nat).contains 5=false from rfl).trans<|mI e rfl
 exact mI b rfl
end
abbrev UC:Type:=PV×SP×List (List<|Nat×Nat)
inductive GE where
 |k (m s:Nat)
 |t (a:UC)
noncomputable def iJ:GE->PV
 |.k m s=>.tup [.int (m:Int),.int (s:Int)]
 |.t a=>.tup [a.1,.int 3]
noncomputable def zA:GE->PV
 |.k m _=>.int (m:Int)
 |.t a=>a.1
noncomputable def Ar:GE->Nat
 |.k _ s=>s
 |.t _=>3
noncomputable def Ft:GE->List (List<|Nat×Nat)
 |.k m s=>[[(m,s)]]
 |.t a=>a.2.2
def gJ:GE->Prop
 |.k m s=>CD.contains m=true/\s<3
 |.t a=>a∈TM
def Ql:GE->Option Nat
 |.k _ _=>none
 |.t a=>B5 a.2.1
noncomputable def k9:List GE->Option Nat
 |[]=>none
 |e::a=>(Ql e).or<|k9 a
theorem GY(n)(g)(c)(f e d i h):(TM.map λa=>forTurn (ev FT CT<|n+30) (.ns [3,4]) (lb Qp 0) (.tup [a.1,.int 3]) ⟨f::e::d::i::h::c,g⟩)=TM.map λa=>some ((B5 a.2.1).map λb=>Fl.ret<|ae (b:Nat),⟨f::e::d::some (.v a.1)::some (ae 3)::c,g⟩):=by kernel_rfl
section
variable{g:List GO} {ks vs:List PV} {ro:Nat} {x1:PV}
def M3(g:List GO)(ks vs:List PV)(x1:PV)(ro:Nat)(o:Option GE)(a b:Option RV):St:=FU g (some<|wm ks vs) (some<|.v x1) (ni ro) (o.map λe=>.v<|zA e) (o.map λe=>ae (Ar e:Nat)) a b none none
theorem M1:∀{d o},(∀e∈d,gJ e)->∃c,Km (.ns [3,4]) (lb Qp 0) (λs=>s.g=g) (d.map iJ) (M3 g ks vs x1 ro o none none) ((k9 d).map λb=>.ret<|ae (b:Nat),M3 g ks vs x1 ro c none none)
 |[],o,_=>⟨o,.nil rfl⟩
 |.k m s::d,o,h=>by
  have q:aS g .Eq (ae (s:Nat)) (ae (3:Nat))=some false:=eT.trans<|congrArg some<|Uf.mpr λe=>absurd (h _<|.head _).2 (by rw[ii e];decide)
  obtain⟨c,i⟩:=M1 (o:=some<|.k m s) λe m=>h e<|.tail _ m
  exact⟨c,.cons rfl (kt 9 [ob q]) i⟩
 |.t a::d,o,h=>by
  have t:Ok (λf=>forTurn f (.ns [3,4]) (lb Qp 0) (iJ<|.t a)<|M3 g ks vs x1 ro o none none) ((B5 a.2.1).map λb=>Fl.ret<|ae (b:Nat),M3 g ks vs x1 ro (some<|.t a) none none):=Ok.of 30 λn=>by rw[dg];exact ww.mp (GY n g [none,none,none,none,none] (some<|wm ks vs) (some<|.v x1) (ni ro) (o.map λe=>.v<|zA e)<|o.map λe=>ae (Ar e:Nat)) a<|h _<|.head _
  show∃c,Km _ _ _ _ _ (((B5 a.2.1).or<|k9 d).map _,_)
  induction q:B5 a.2.1 with
  |none=>
   rw[q]at t;obtain⟨c,i⟩:=M1 (o:=some<|.t a) λe m=>h e<|.tail _ m
   exact⟨c,.cons rfl t i⟩
  |some b=>rw[q]at t;exact⟨some<|.t a,.stop rfl t⟩
end
def pg(b:List GE)(a:List (List<|Nat×Nat)):List (List<|Nat×Nat):=b.foldl (λa e=>ij a<|Ft e) a
theorem Jk(h:gJ e):∀w∈Ft e,w.length<=2/\∀x∈w,wX x=true:=by
 induction e with
 |k m s=>
  intro w b;rw[wP.mp b];refine⟨(by decide:1<=2),λx c=>?_⟩
  rw[wP.mp c];show((CD.contains m&&SL s 3)||_)=true
  rw[h.1,show SL s 3=true from bR h.2];rfl
 |t a=>exact λw b=>aE (bv.mp (bv.mp Vp a h) w b) λf d=>⟨io f,bv.mp d⟩
theorem Rc:(TM.all λa=>bx a.2.2.length 3)=true:=by decide+kernel
theorem Jl(h:gJ e):(Ft e).length<=3:=by
 induction e with
 |k m s=>exact(by decide:1<=3)
 |t a=>exact io<|bv.mp Rc a h
theorem vn:(ij a b).length=a.length*b.length:=by
 delta ij;induction a with
 |nil=>exact(Nat.zero_mul _).symm
 |cons r a c=>rw[dH,ch,im,c,FB,UN,wp]
theorem mV:x∈ij a e↔∃r∈a,∃w∈e,r++w=x:=by delta ij;refine aW.trans ?_;exact⟨λd=>aO d λr c h=>(to.mp h).elim λw b=>⟨r,c,w,b⟩,λ⟨r,c,w,b⟩=>⟨r,c,to.mpr ⟨w,b⟩⟩⟩
section
variable{ks vs:List PV} {ro:Nat} {x1:PV}
theorem ZX{es}:∀{rows o b},(∀e∈es,gJ e)->(∀r∈rows,r.length+2*es.length<=10)->rows.length*3^es.length<64->∃f n,Km (.ns [3,4]) (lb Qp 2) (λs=>s.g=g) (es.map iJ) (M3 g ks vs x1 ro o (some<|.ml none<|rows.map dr) b) (none,M3 g ks vs x1 ro f (some<|.ml none<|(pg es rows).map dr) n):=by
 induction es with
 |nil=>exact@λrows o b _ _ _=>⟨o,b,.nil rfl⟩
 |cons e es z=>
  intro rows o b h y C;have d:=h e<|.head _
  have u:∀w∈Ft e,w.length<=2:=λw m=>(Jk d w m).1;have p:(ij rows<|Ft e).length*3^es.length<64:=by rw[vn,Uk];exact ac (FS _ (by rw[FB,Av,Aw<|3^es.length];exact nT _<|Jl d)) C
  refine jF (z (rows:=ij rows (Ft e)) (o:=some e) (b:=some (.ml none ((Ft e).map dr))) (λe m=>h e (.tail _ m)) (λx A=>by
   obtain⟨r,i,w,c,rfl⟩:=mV.mp A;rw[ch];refine am ?_<|y r i
   rw[wn,FB,cC,wp (2*_) 2];exact db (lf (u w c) _) _) p) λf n D=>?_
  have j:=NB (g:=g) (r0:=some<|wm ks vs) (r1:=some<|.v x1) (r2:=ni ro) (r3:=some<|.v<|zA e) (r4:=some<|ae (Ar e:Nat)) (rows:=rows) (ws:=Ft e) (λr i w c=>am (db (am (u w c) (by rw[FB,cC];exact ut 2 _)) _)<|y r i)<|Ev (ac (Nat.le_mul_of_pos_right _<|Ys<|wv _) p) (by decide)
  refine⟨f,n,.cons rfl ?_ D⟩;induction e with
  |k m s=>
   have q:aS g .Eq (ae (s:Nat)) (ae (3:Nat))=some false:=eT.trans<|congrArg some<|Uf.mpr λe=>absurd d.2 (by rw[ii e];decide)
   have E:(Ft<|.k m s).map dr=[.lst [.tup [.int (m:Int),.int (s:Int)]]]:=congrArg (λl=>[PV.lst l])<|Bn (es:=[(m,s)]) λe m=>(wP.mp m)▸(vW d.1).1
   rw[E]at j⊢;exact kt 12 [ob q,ox j]
  |t a=>exact kt 12 [od,oc<|SA (g:=g) d,ox j]
end
section
variable{L:List GO} {ks vs:List PV} {ro:Nat} {x1:PV} {r3 r4 b:Option RV}
def s9(ks vs:List PV)(x1:PV)(ro:Nat)(r3 r4 a b o:Option RV)(g:List GO):St:=⟨[some<|wm ks vs,some<|.v x1,ni ro,r3,r4,a,b,none,none,o],g⟩
inductive S9E(R:List PV)(L:List GO)(c:Nat)(st:Option RV->List GO->St)(a:List Nat)(C:List LD)(H:iU->Option (Option Unit×(List PV×St))):Prop
 |mk (ts:List Nat) (S:List PV) (o:Option RV) (e:Ok H (none,(iv<|a++ts,st o<|G S L))) (g:dU R c S) (h:bc (LK S) ts C):S9E R L c st a C H
theorem L6(u:WD ks vs){a:List (List<|Nat×Nat)}:∀{acc o R},Tb R->(∀r∈a,Dd r=true)->acc.length+a.length<64->R.length+11*a.length+20<az->S9E R L (11*a.length) (s9 ks vs x1 ro r3 r4 none b) acc (a.map<|G0 ro) λf=>bb (compTurn f [9] (.call 71 [.v 0,.v 9,.v 2]) (.v 9) []) (a.map dr) (iv acc,s9 ks vs x1 ro r3 r4 none b o<|G R L):=by
 induction a with
 |nil=>exact@λacc o R _ _ _ _=>⟨[],R,o,by rw[u8];exact .pure,.refl,.nil⟩
 |cons r a s=>
  intro acc o R n j l d;have c:R.length+11+11*a.length+20<az:=by rw[FB,cC,wp (11*_) 11,<-wn]at d;exact d
  obtain⟨t,S,e,g,k⟩:=SN (L:=L) (ro:=ro) n u (j r<|.head _)<|ac (lf (pp _ _) _) d
  obtain⟨ts,T,q,i,p,h⟩:=s (acc:=acc++[t]) (o:=some<|.v<|dr r) (R:=S) (g.tb n) (λr m=>j r<|.tail _ m) (by rw[ch,wn,wp [t].length];exact l)<|ac (lf (lf g.len _) _) c
  rw[sK]at i;refine⟨t::ts,T,q,(fV (y:=ae t) (s1:=s9 ks vs x1 ro r3 r4 none b (some<|.v<|dr r)<|G R L) (s2:=s9 ks vs x1 ro r3 r4 none b (some<|.v<|dr r)<|G R L) (s3:=s9 ks vs x1 ro r3 r4 none b (some<|.v<|dr r)<|G S L) rfl d9 ?_<|ke 9 [oc e]).two (by rw[<-gF]at i;exact i) λ_=>dk,?_,.cons (k.up p) h⟩
  .rw[aJ];exact ac (pp _ _)<|Ev l (by decide)
  .rw[FB,cC,wp];exact g.trans p
theorem EO:∀{rows},(∀e∈a,gJ e)->(pg a rows).length<=rows.length*3^a.length:=by
 induction a with
 |nil=>exact λ{rows} _=>EQ (Nat.mul_one _).symm
 |cons e a c=>
  intro rows h;refine am (c (rows:=ij rows<|Ft e) λe m=>h e<|.tail _ m) ?_
  rw[vn,Uk,FB,Av,Aw<|3^a.length]
  exact FS _<|nT _<|Jl<|h e<|.head _
theorem yQ:∀{rows},(∀e∈d,gJ e)->(∀r∈rows,r.length+2*d.length<=10/\∀x∈r,wX x=true)->∀r∈pg d rows,r.length<=10/\∀x∈r,wX x=true:=by
 induction d with
 |nil=>exact λ{rows} _ h=>h
 |cons e d g=>
  intro rows h f;refine g (rows:=ij rows<|Ft e) (λe m=>h e<|.tail _ m) λx j=>?_
  obtain⟨r,c,w,k,rfl⟩:=mV.mp j;have a:=Jk (h e<|.head _) w k
  refine⟨?_,λy i=>(TD.mp i).elim ((f r c).2 y)<|a.2 y⟩
  rw[ch];refine am ?_ (f r c).1;rw[wn,FB,cC,wp (2*_) 2];exact db (lf a.1 _) _
theorem Ff(F:Tb R)(w:WD ks vs)(D:(G R L)[n]?=some (.list<|a.map iJ))(h:∀e∈a,gJ e)(l:a.length<=3)(E:k9 a=none)(x:R.length+400<az):Kj 72 [wm ks vs,ak n,ae (ro:Nat)] [some<|wm ks vs,none,none] R L 298 27 ((pg a [[]]).map<|G0 ro):=by
 refine fN (M1 (g:=G R L) (ks:=ks) (vs:=vs) (ro:=ro) (x1:=.aZ n) (o:=none) h) λp q=>?_;rw[E]at q;have d:=iW (n:=3) (wv _) l;refine jF (ZX (g:=G R L) (ks:=ks) (vs:=vs) (ro:=ro) (x1:=.aZ n) (rows:=[[]]) (o:=p) (b:=none) h (λr c=>by exact(wP.mp c)▸am (db (FS 2 l) _) (by decide))<|ac (am (EQ<|Yt _) d) (by decide)) λj z A=>?_
 have f:(pg a [[]]).length<=27:=am (EO h)<|am (EQ<|Yt _) d
 have m:=yQ (rows:=[[]]) h λr c=>by refine(wP.mp c)▸?_;exact⟨am (db (FS 2 l) _) (by decide),λ_ h=>nomatch h⟩
 have u:bq (G R L) 1 (ak n) (a.map iJ):=.aZ D;generalize pg a [[]]=rows at*;obtain⟨ts,S,o,e,g,k⟩:=L6 (L:=L) (ro:=ro) (x1:=.aZ n) (r3:=j.map λe=>.v<|zA e) (r4:=j.map λe=>ae (Ar e:Nat)) (b:=z) (acc:=[]) (o:=none) w F (λr c=>HW (m r c).2 (m r c).1) (by rw[tz,ss];exact ac f (by decide))<|ac (by rw[wn];exact db (lf (FS 11 f) 20) _)<|ac (db (by decide) _) x
 have g:=g.up<|FS 11 f
 have tl:ts.length<=27:=by rw[fb k,im];exact f
 have I:=mW (t:=.v 9) (i:=5) (s:=s9 ks vs (.aZ n) ro (j.map λe=>.v<|zA e) (j.map λe=>ae (Ar e:Nat)) (some<|.ml none<|rows.map dr) z none<|G R L) rfl rfl e
 obtain⟨t,T,H,y,C⟩:=Bw (ns:=ts) (L:=L) w.tab (ac tl (by decide))<|ac (am g.len<|db (by decide) _) x
 exact⟨t,T,kf 20 [os<|ou (t:=.ns [3,4]) (b:=lb Qp 0) (i:=1) (rs:=(M3 (G R L) ks vs (.aZ n) ro none none none).r) u rfl q,os<|ou (t:=.ns [3,4]) (b:=lb Qp 2) (i:=1) (rs:=(M3 (G R L) ks vs (.aZ n) ro p (some<|.ml none [dr []]) none).r) u rfl A,ox I,oc H],(g.trans y).up<|v6 _,ts,rows.map<|G0 ro,cZ k λ_ _ h=>h.up y,C,λ_=>.rfl,tl⟩
end
noncomputable def t8:GE->SE
 |.k m s=>.k m s
 |.t a=>.sp a.2.1
theorem LH:(TM.all λa=>(B5 a.2.1).isSome||((yo<|.sp a.2.1).all a.2.2.contains&&a.2.2.all (yo<|.sp a.2.1).contains))=true:=by decide+kernel
theorem DN(h:gJ e)(b:Ql e=none)(w):w∈Ft e↔w∈yo (t8 e):=by
 induction e with
 |k m s=>exact .rfl
 |t a=>have q:=bv.mp LH a h;rw[show B5 a.2.1=none from b]at q;exact aE (show(_&&_)=true from q) λd c=>⟨λm=>wf.mp<|bv.mp c w m,λm=>wf.mp<|bv.mp d w m⟩
theorem J7(h:k9 (e::a)=none):Ql e=none/\k9 a=none:=by
 have h:(Ql e).or (k9 a)=none:=h;induction q:Ql e with
 |none=>rw[q]at h;exact⟨rfl,h⟩
 |some b=>rw[q]at h;exact nomatch h
theorem qO:∀{rows x},(∀e∈d,gJ e)->k9 d=none->(x∈pg d rows↔∃r∈rows,∃c∈k7 (d.map t8),r++c=x):=by
 induction d with
 |nil=>exact λ{rows x} _ _=>⟨λh=>⟨x,h,[],.head _,u8 x⟩,λ⟨r,b,c,a,e⟩=>by rw[wP.mp a,u8]at e;exact e▸b⟩
 |cons e d l=>
  intro rows x h n;obtain⟨j,p⟩:=J7 n;refine(l (rows:=ij rows<|Ft e) (λe m=>h e<|.tail _ m) p).trans ⟨λ⟨r,b,c,a,q⟩=>?_,λ⟨r,b,c,a,q⟩=>?_⟩
  .obtain⟨k,g,w,f,rfl⟩:=mV.mp b;exact⟨k,g,w++c,aW.mpr ⟨w,(DN (h e<|.head _) j w).mp f,to.mpr ⟨c,a,rfl⟩⟩,by rw[<-sK];exact q⟩
  .refine aO (aW.mp a) λw f a=>?_;obtain⟨o,i,rfl⟩:=to.mp a;exact⟨r++w,mV.mpr ⟨r,b,w,(DN (h e<|.head _) j w).mpr f,rfl⟩,o,i,by rw[sK];exact q⟩
theorem E5(h:∀e∈f,gJ e)(g:k9 f=none)(x):x∈kn i (f.map t8)↔x∈(pg f [[]]).map (G0 i):=by delta kn;rw[to,to];exact⟨λa=>aO a λc d e=>⟨c,(qO h g).mpr ⟨[],.head _,c,d,rfl⟩,e⟩,λa=>aO a λc d e=>by obtain⟨r,j,k,b,q⟩:=(qO h g).mp d;rw[wP.mp j]at q;exact⟨c,q▸b,e⟩⟩
theorem J6:isBad (t8 e)=Ql e:=by
 induction e with
 |k m s=>rfl
 |t a=>obtain⟨x,p,w⟩:=a;induction p<;>rfl
theorem pW:∀a:List GE,(a.map t8).findSome? isBad=k9 a
 |[]=>rfl
 |e::a=>by rw[xL,oK,J6,pW];show _=(Ql e).or (k9 a);induction Ql e<;>rfl
section
variable{ks:List PV}
theorem Bt(d:(G R L)[n]?=some (.list<|c.map iJ))(h:∀e∈c,gJ e)(f:k9 c=some b):ai 72 [wm ks vs,ak n,ae (ro:Nat)] (G R L) (ae (b:Nat)) [some<|wm ks vs,none,none] (G R L):=by refine fN (M1 (g:=G R L) (ks:=ks) (vs:=vs) (ro:=ro) (x1:=.aZ n) (o:=none) h) λj a=>?_;rw[f]at a;exact kf 20 [os<|ou (t:=.ns [3,4]) (b:=lb Qp 0) (i:=1) (rs:=(M3 (G R L) ks vs (.aZ n) ro none none none).r) (.aZ d) rfl a]
theorem A2(h:∀e∈a,gJ e)(f:k9 a=none)(j:UL S n (kn d<|a.map t8) t)(g:dU S c T)(i:UL T m ((pg a [[]]).map<|G0 d) b):t=b:=UL.eq (UL.weak (j.up g) (v6 _)<|E5 h f) i
theorem Oy(h:∀e∈c,gJ e)(f:k9 c=none)(d:c.length<=3):∀a∈k7 (c.map t8),vr a=true:=λa b=>by
 have m:=(qO (rows:=[[]]) h f).mpr ⟨[],.head _,a,b,rfl⟩;have k:=yQ (rows:=[[]]) h (λr b=>by refine(wP.mp b)▸?_;exact⟨am (db (FS 2 d) _) (ut ..),λ_ h=>nomatch h⟩) a m
 exact HV k.2 k.1
end
section
variable{g:List GO} {m:Nat}
noncomputable def qg(l:List Int):RV:=.ml (some 0)<|l.map .int
inductive X0(g:List GO)(m:Nat)(l:List Int):Prop
 |mk (r:Nat) (a:List Int) (b:r<m) (e:ai 62 [qg l,ae m] g (ae r) [some<|qg a,none] g) (c:a.length<=l.length):X0 g m l
theorem jh(a:0<m)(l):X0 g m l:=by
 rcases AA l with rfl|⟨k,x,e⟩
 .exact⟨0,[],a,kf 20 [od],v6 _⟩
 .rw[AB]at e;subst e;have j:(m:Int)≠0:=λe=>absurd (mN e)<|UP a
  have o:=Int.emod_nonneg x j;have n:=Int.emod_lt_of_pos x<|aV.mpr a
  have b:=js o;refine⟨(x % (m:Int)).toNat,k,aV.mp<|b▸n,?_,ch▸pp _ _⟩
  have c:cF g (qg<|k++[x])=some true:=by induction k<;>rfl
  have f:∀(s:St),s.get 0=some (qg<|k++[x])->uJ s .pop (.pl 0) []=some (ae x,s.put 0<|some<|qg k):=λs h=>by
   refine bI h ?_;show(((some<|(k++[x]).map PV.int).bind λl=>l.getLast?.bind λy=>((Op.pl 0).store s<|.ml none l.dropLast).map λd=>(RV.v y,d)))=_
   refine AC▸?_;refine bI (x:=k.map PV.int++[PV.int x]) rfl<|bI (x:=PV.int x) Cg ?_
   exact nA▸mI (show(Op.pl 0).store s (.ml none<|k.map PV.int)=some (s.put 0<|some<|qg k) from bI h rfl) rfl
  have i:hK g .Mod (ae x) (ae m)=some (ae ((x % (m:Int)).toNat:Nat)):=by rw[b,<-Int.fmod_eq_emod_of_nonneg x (Do m)];exact mI (x:=x.fmod m) (if_pos<|aV.mpr a) rfl
  exact kf 20 [ob c,om<|f ⟨[some<|qg<|k++[x],some<|ae m],g⟩ rfl,ov i]
end
theorem tF(h:∀(n:Nat)(g:List GO),((ev FT CT<|n+60).call 26 [ak 0,dQ<|.int k::b] g,(ev FT CT<|n+60).call 25 [dQ<|.int k::b] g)=(some (.ml none<|iv a,[none,none],g),some (dQ [],[none],g)))(c:k=10->b=[.int 0]):Node (.int k::b) a:=⟨λg=>Aq (n:=60) λn=>by rw[dg];exact congrArg Pv<|h n g,λg=>Aq (n:=60) λn=>by rw[dg];exact congrArg py<|h n g,k,b,rfl,c⟩
theorem RR(u a:Nat):Node [.int 11,.int (u:Int),.int (a:Int)] [u]:=tF (λn g=>by kernel_rfl) λe=>absurd e (by decide)
theorem MG(a:Nat):Node [.int 12,.tup<|ab [],.int (a:Int)] []:=tF (λn g=>by kernel_rfl) λe=>absurd e (by decide)
theorem MF(u s a:Nat):Node [.int 12,.tup<|ab [(u,s)],.int (a:Int)] [u]:=tF (λn g=>by kernel_rfl) λe=>absurd e (by decide)
theorem ME(u s v r a:Nat):Node [.int 12,.tup<|ab [(u,s),(v,r)],.int (a:Int)] [u,v]:=tF (λn g=>by kernel_rfl) λe=>absurd e (by decide)
theorem MD(u v):Node [.int 6,.tup<|iv [u,v]] [u,v]:=tF (λn g=>by kernel_rfl) λe=>absurd e (by decide)
theorem MC(u v w):Node [.int 6,.tup<|iv [u,v,w]] [u,v,w]:=tF (λn g=>by kernel_rfl) λe=>absurd e (by decide)
theorem MI(u v):Node [.int 7,.tup<|iv [u,v]] [u,v]:=tF (λn g=>by kernel_rfl) λe=>absurd e (by decide)
noncomputable def LF:List Nat:=[0,2,13,16,17,18,6,19,7,8,9]
def qH(q:Nat):List PV:=(B[q]?.bind λx=>x.lD).getD []
theorem zi(n)(g):(LF.map λq=>((ev FT CT<|n+60).call 26 [ak 0,dQ<|qH q] g,(ev FT CT<|n+60).call 25 [dQ<|qH q] g))=LF.map λ_=>(some (.ml none [],[none,none],g),some (dQ [],[none],g)):=by kernel_rfl
theorem It:(LF.map λq=>B[q]?)=LF.map λq=>some<|.tup<|qH q:=by kernel_rfl
def Jd(q:Nat):Int:=((qH q).head?.bind λx=>x.int?).getD 0
theorem Iu:(LF.map qH)=LF.map λq=>.int (Jd q)::(qH q).tail:=by kernel_rfl
theorem Nf:(LF.map λq=>bif decide (Jd q=10)then(qH q).tail else[.int 0])=LF.map λ_=>[.int 0]:=by kernel_rfl
theorem MJ(h:q∈LF):Node (qH q) []:=⟨λg=>Aq (n:=60) λn=>by rw[dg];exact congrArg Pv (ww.mp (zi n g) q h),λg=>Aq (n:=60) λn=>by rw[dg];exact congrArg py (ww.mp (zi n g) q h),Jd q,(qH q).tail,ww.mp Iu q h,λe=>by have:=ww.mp Nf q h;rwa [decide_eq_true e]at this⟩
theorem Cw(a:Tb R)(h:q∈LF):Tr R q 1:=.mk (ns:=[]) (a.at (ww.mp It q h)) (MJ h) rfl (λ_ h=>nomatch h) rfl
theorem H8:Node (qH 22) [6]:=by
 have h:∀(n:Nat)(g:List GO),((ev FT CT<|n+60).call 26 [ak 0,dQ<|qH 22] g,(ev FT CT<|n+60).call 25 [dQ<|qH 22] g)=(some (.ml none [.int 6],[none,none],g),some (dQ [],[none],g)):=λn g=>by kernel_rfl
 exact⟨λg=>Aq (n:=60) λn=>by rw[dg];exact congrArg Pv<|h n g,λg=>Aq (n:=60) λn=>by rw[dg];exact congrArg py<|h n g,8,(qH 22).tail,by kernel_rfl,λe=>absurd e (by decide)⟩
theorem G4(a:Tb R):Tr R 22 2:=.mk (ns:=[1]) (a.at (i:=22) (by kernel_rfl)) H8 rfl (λp h=>by exact(wP.mp h)▸Cw a (by decide)) rfl
noncomputable def KT:List (Nat×Nat):=[(1,17),(2,18),(4,6),(8,19),(32,7),(8192,16)]
theorem Su:(KT.all λa=>decide (zx a.1=[a.2])&&LF.contains a.2)=true:=by decide+kernel
noncomputable def PM(c:Nat):Bool:=KT.any (λa=>co a.1 c)||co c 192
def HT:SD->Bool
 |.lst (.arr m _)=>PM m&&SL m 8192
 |.lst (.tup a _)=>bx a.length 2&&a.all λe=>PM e.1
 |.meet m=>PM m&&SL m 8192
 |_=>true
def ye(R:List PV)(n t:Nat):Prop:=∃m,m<=n/\Tr R t m
theorem ye.up (h:ye R n t) (l:n<=k):ye R k t:=h.elim λm h=>⟨m,am h.1 l,h.2⟩
theorem ye.s (h:ye R n t) (l:n<64):F5 R t:=h.elim λm h=>⟨m,ac h.1 l,h.2⟩
theorem G2{a:List Nat}:(∀p∈a,ye R k p)->∃b:List Nat,a.length=b.length/\(∀p∈a.zip b,Tr R p.1 p.2)/\lF b<=k*a.length:=by
 induction a with
 |nil=>exact@λ_=>⟨[],rfl,⟨λ_ h=>(nomatch h),Rs _⟩⟩
 |cons p a d=>
  intro h;refine eV (d λq m=>h q<|.tail _ m) λb l j i=>?_
  refine aO (h p<|.head _) λm g c=>?_
  exact⟨m::b,congrArg dO l,λq f=>(rc.mp f).elim (λe=>e▸c) (j q),by rw[FB,cC,wp];exact TE g i⟩
theorem ye.node (b) (h:R[t]?=some (.tup u)) (z:Node u q) (D:∀p∈q,ye R k p) (C:q.length<=b):ye R (1+k*b) t:=by refine eV (G2 D) λI H F E=>?_;exact⟨_,db (am E<|FS k C) 1,.mk h z H F rfl⟩
theorem sQ(a:Tb R)(h:LF.contains t=true):ye R 1 t:=⟨1,v6 _,Cw a<|wf.mp h⟩
theorem RO(e:2<=l.length)(d:l.length<=3):Node [.int 6,.tup<|iv l] l:=by
 match l,e,d with
 |[a,b],_,_=>exact MD a b
 |[a,b,c],_,_=>exact MC a b c
 |_::_::_::_::l,_,h=>exact absurd h<|ql.mpr<|ut 4 l.length
theorem RP{c:Nat}(h:d.length<=2):Node [.int 12,.tup<|ab d,.int (c:Int)] (d.map Pv):=by
 match d,h with
 |[],_=>exact MG c
 |[a],_=>exact MF a.1 a.2 c
 |[a,b],_=>exact ME a.1 a.2 b.1 b.2 c
 |_::_::_::l,h=>exact absurd h<|ql.mpr<|ut 3 l.length
theorem G3(h:bz R l t)(b:2<=l.length)(a:l.length<=3)(c:∀p∈l,ye R k p):ye R (1+k*3) t:=.node 3 (mP h b) (RO b a) c a
theorem Ps(b:Tb R)(hc:PM c=true)(h:KX R c t):ye R 4 t:=by
 rcases FM.mp hc with hc|hc
 .refine aO (P3.mp hc) λa d e=>?_;have e:=ii e;subst e;exact aE (bv.mp Su a d) λg f=>by delta KX at h;rw[of_decide_eq_true g]at h;exact(sQ b<|h▸f).up<|wv _
 .have e:=ii hc;subst e;have h:bz R [8,9] t:=h;exact(G3 (k:=1) h (v6 _) (ut ..) λp m=>sQ b (by simp only[rc,eA,or_false]at m;rcases m with rfl|rfl<;>rfl)).up (v6 _)
theorem G5(f:Tb R)(c:PM m=true)(e:SL m 8192=true)(h:LK R t (.arr m a)):ye R 5 t:=by refine aO h λu b d=>?_;exact .node 1 (aK d) (RR u a) (λp m=>(wP.mp m)▸Ps f c (b.x<|io e))<|v6 _
theorem Pr(c:Tb R)(i:HT d=true)(h:SK R t d):ye R 11 t:=by
 induction d with
 |lst d=>
  induction d with
  |arr m o=>exact aE i λa b=>(G5 c a b h).up (by decide)
  |tup z o=>
   refine aO h λn f j=>?_;refine aE i λy x=>?_;have l:n.length<=2:=(EX.len f)▸io y;refine ye.up (.node (k:=4) 2 (aK j) (RP l) (λp m=>?_) (by rw[im];exact l)) (by decide)
   refine aO (to.mp m) λa w g=>qE g ?_;refine aO (mB f a w) λe v s=>?_;exact Ps c (bv.mp x e v) s.1
 |yT=>exact(sQ c<|h▸rfl).up (by decide)
 |meet m=>
  refine aO h λu f j=>?_;exact aE i λa b=>(ye.node (k:=5) 2 (aK j) (MI u 22) (λp m=>by
   simp only[rc,eA,or_false]at m;rcases m with rfl|rfl
   .exact G5 c a b f
   .exact⟨2,by decide,G4 c⟩) (v6 _))
 |any=>exact(sQ c<|h▸rfl).up (by decide)
 |atom q=>obtain⟨rfl,r⟩:=h;exact(sQ c<|bv.mp (by decide:([17,8,9].all LF.contains)=true) t r).up (by decide)
inductive B'(a:Nat)(f:List RV)(b:List (Option RV))(R:List PV)(L:List GO)(c:Nat)(d:SD):Prop
 |mk (t:Nat) (S:List PV) (e:ai a f (G R L) (ae t) b (G S L)) (g:dU R c S) (k:SK S t d):B' a f b R L c d
def YT:SD->Int
 |.lst (.arr _ _)=>11
 |.lst (.tup _ _)=>12
 |.yT=>10
 |.meet _=>7
 |.any=>1
 |.atom q=>(kindB q).getD 0
section
variable{ks vs:List PV}
theorem SK.kd (u:Tb R) (h:SK R t d):p8 R t (YT d):=by
 induction d with
 |lst d=>
  induction d with
  |arr=>refine aO h λ_ _ h=>?_;exact⟨_,aK h⟩
  |tup=>refine aO h λ_ _ h=>?_;exact⟨_,aK h⟩
 |yT=>exact h▸u.kd (by decide+kernel)
 |meet=>refine aO h λ_ _ h=>?_;exact⟨_,aK h⟩
 |any=>exact h▸u.kd (by decide+kernel)
 |atom q=>obtain⟨rfl,z⟩:=h;exact u.kd<|eq_of_beq<|bv.mp (by decide+kernel:([17,8,9].all λq=>kindB q==some (YT<|.atom q))=true) t z
theorem p8.inj (h:p8 R t k) (q:p8 R t u):k=u:=by obtain⟨_,h⟩:=h;obtain⟨_,q⟩:=q;replace q:=h▸q;cases q;rfl
theorem Hu(c:Tb R)(h:bc (SK R) e j):(j.map YT).Nodup->e.Nodup:=by
 induction h with
 |nil=>exact λ_=>.nil
 |cons h t f=>intro n;obtain⟨a,b⟩:=Wp.mp n;exact Wp.mpr ⟨λm=>by refine aO (mB t _ m) λd i g=>?_;exact a (to.mpr ⟨d,i,(g.kd c).inj (h.kd c)⟩),f b⟩
theorem VA(h:bc (SK R) f i):f.Nodup->∃c:Nat->SD,i=f.map c/\∀q∈f,SK R q<|c q:=by
 induction h with
 |nil=>exact λ_=>⟨λ_=>.yT,rfl,λ_ h=>nomatch h⟩
 | @cons u d f i h t j=>
  intro n;obtain⟨a,b⟩:=Wp.mp n;refine aO (j b) λc e k=>?_;have g:∀q∈f,(bif co q u then d else c q)=c q:=λq m=>by rw[show co q u=false from Uf.mpr λe=>a<|ii e▸m];rfl
  exact⟨λq=>bif co q u then d else c q,by show _=(bif co u u then d else c u)::f.map _;rw[gZ,ej g,e];rfl,λq m=>(rc.mp m).elim (λe=>by rw[e];show SK R u (bif co u u then d else _);rw[gZ];exact h) λm=>by show SK R q (bif co q u then d else c q);rw[g q m];exact k q m⟩
def PN(ks vs:List PV)(s:Str)(x:PV)(a:Nat)(d c b:Option RV)(g:List GO):St:=⟨[some<|wm ks vs,some<|.v<|KH s x a,some<|.v<|.str s,some<|.v x,ni a,none,none,d,c,b],g⟩
theorem Bk(i:FT[p]?=some (Gn j))(c:WD ks vs)(h:m<8192)(d:R.length+5<az):B' p [wm ks vs,.v<|KI m a] [some<|wm ks vs,none] R L 5 (.lst<|.arr m a):=by
 obtain⟨u,S,e,g,k⟩:=gE (L:=L) c (ac (pp _ _) d) h;have b:isKey 6 (.tup [.int 11,.int (u:Int),.int (a:Int)])=true:=rfl;refine eV (gh (R:=S) b) λX o n l=>?_;have f:dU S 1 (oe S<|.tup [.int 11,.int (u:Int),.int (a:Int)]).2:=o▸.mk X n
 exact⟨_,_,Ux i 20 [od,od,od,od,od,op<|c.tab (G R L)<|some 0,oc e,oc<|pD (L:=L) b<|ac (am g.len<|db (by decide) _) d,od],(g.trans f).up (by decide),u,bz.up k f,l⟩
theorem H3(p:FT[r]?=some (Gn j))(c:WD ks vs)(n:∀e∈es,e.1<8194)(b:es.length<=2)(d:R.length+5<az):B' r [wm ks vs,.v<|G7 es ro] [some<|wm ks vs,none] R L 5 (.lst<|.tup es ro):=by
 refine sA λC f=>?_;obtain⟨z,S,o,e,g,h⟩:=so (L:=L) (R:=R) (own:=[8,9]) (t:=.ns [8,9]) (v:=gD) (code:=Pv) (F:=λu e=>eN (u,e.2)) (es:=es) (out:=[]) (o:=none) (elt:=.tup [(.call 67 [(.v 0),(.v 8)]),(.v 9)]) (after:=λg o=>PN ks vs ⟨#[40,41]⟩ (.tup<|es.map gD) ro none (o.map λe=>ae<|cI e.1) (o.map λe=>ae (e.2:Nat)) g) (λ_=>True) (λ_ _ _=>trivial) c (λ_ _ _=>rfl) (λR S a u h=>ke 9 [oc h]) n (by rw[tz,ss];exact ac b (by decide)) (ac (db (am b (by decide)) _) d)
 obtain⟨A,rfl,m⟩:=xb h;rw[GM]at e;have x:=eH (t:=.ns [8,9]) (i:=3) (s:=PN ks vs ⟨#[40,41]⟩ (.tup<|es.map gD) ro none none none<|G R L) (y:=.tup<|es.map gD) (src:=.l<|es.map gD) rfl rfl e.Vn
 refine ju (qz (L:=L) (ro:=ro) m<|ac (am g.len<|db (am b (by decide)) _) d) λt T w q k=>?_
 refine f ?_;exact⟨t,T,Ux p 20 [od,od,od,od,od,ox x,op<|c.tab (G R L) (some 0)|>λh=>c.tab (G S L)<|some 0,od,oc w],(g.trans q).up<|am (lf b 1) (by decide),k⟩
theorem My{m:Nat}(t:FT[z]?=some (Gn j))(d:WD ks vs)(s:m<8192)(h:R.length+5<az):B' z [wm ks vs,.v<|KH ⟨#[38]⟩ (.int (m:Int)) 0] [some<|wm ks vs,none] R L 5 (.meet m):=by
 refine sA λC r=>?_;obtain⟨u,S,e,g,k⟩:=gE (L:=L) d (ac (pp _ _) h) s;have n:isKey 6 (.tup [.int 11,.int (u:Int),.int (0:Nat)])=true:=rfl;refine eV (gh (R:=S) n) λX x w i=>?_;have f:=pD (L:=L) n<|ac (am g.len<|db (by decide) _) h
 have b:dU S 1 (oe S<|.tup [.int 11,.int (u:Int),.int (0:Nat)]).2:=x▸.mk X w
 refine r ?_;revert f i b;generalize oe S (.tup [.int 11,.int (u:Int),.int (0:Nat)])=y;obtain⟨v,c⟩:=y;intro i f b;have a:isKey 6 (.tup [.int 7,.tup<|iv [v,22]])=true:=rfl
 refine eV (gh (R:=c) a) λA q p o=>?_;have l:dU c 1 (oe c<|.tup [.int 7,.tup<|iv [v,22]]).2:=q▸.mk A p
 exact⟨_,_,Ux t 20 [od,od,od,od,od,op<|d.tab (G R L)<|some 0,oc e,oc f,od,op<|d.tab (G c L)<|some 0,op<|d.Pu (G c L)<|some 0,oc<|pD (L:=L) a<|ac (am (g.trans b).len<|db (by decide) _) h],((g.trans b).trans l).up (by decide),v,⟨u,bz.up k<|b.trans l,DS l i⟩,o⟩
end
inductive u6(a:Nat)(as:List RV)(b:List (Option RV))(R:List PV)(L:List GO)(c:Nat)(p:SP):Prop
 |mk (t:Nat) (S:List PV) (e:ai a as (G R L) (ae t) b (G S L)) (g:dU R c S) (k:PK S t p) (s:F5 S t):u6 a as b R L c p
abbrev Zh(b:Nat)(ks a:List PV)(L:List GO)(v:PV)(d:SD):Prop:=∀{R:List PV},R.length+5<az->B' b [wm ks a,.v v] [some<|wm ks a,none] R L 5 d
abbrev NC:=Zh 95
theorem rE:FT[68]?=some (Gn 95):=rfl
theorem zF:FT[95]?=some (Gn 96):=rfl
section
variable{R S:List PV} {L:List GO} {ks vs:List PV} {c:Nat}
theorem Df(b:FT[d]?=some (Gn j))(a:WD ks vs):Zh d ks vs L YG .yT:=λ{R} _=>⟨16,R,Ux b 20 [od,od,od,op<|a.yT (G R L)<|some 0],.refl,rfl⟩
theorem Mz(d:FT[h]?=some (Gn j))(a:WD ks vs)(b:m<8192)(f:R.length+5<az):Kk h [wm ks vs,.v<|Gf m] [some<|wm ks vs,none] R L 1 (af m):=by obtain⟨u,S,e,g,k⟩:=gE (L:=L) a (ac (pp _ _) f) b;exact⟨u,S,Ux d 20 [od,oc e],g,k⟩
theorem VZ(b:FT[f]?=some (Gn j))(a:WD ks vs):Zh f ks vs L (Gf 1) (.atom 17):=λ{R} d=>by obtain⟨u,S,e,g,k⟩:=Mz b (L:=L) (m:=1) a (ut ..) d;exact⟨u,S,e,g.up<|wv _,k,.head _⟩
theorem RL(b:FT[f]?=some (Gn j))(a:WD ks vs):Zh f ks vs L (Gf 2048) .any:=λ{R} d=>by obtain⟨u,S,e,g,k⟩:=Mz b (L:=L) (m:=2048) a (ut ..) d;exact⟨u,S,e,g.up<|wv _,k⟩
theorem B'.p (u:Tb R) (q:(HX d&&HT d)=true) (h:B' 68 as z R L 5 d):u6 68 as z R L 16 (.one d):=by obtain⟨t,S,e,g,k⟩:=h;exact aE q λa b=>⟨t,S,e,g.up (ut ..),⟨k,a⟩,(Pr (g.tb u) b k).s (ut ..)⟩
inductive NmE(R:List PV)(L:List GO)(c:Nat)(st:Option RV->List GO->St)(a:List Nat)(d:List SD)(H:iU->Option (Option Unit×(List PV×St))):Prop
 |mk (b:List Nat) (S:List PV) (o:Option RV) (e:Ok H (none,(iv<|a++b,st o<|G S L))) (g:dU R c S) (h:bc (SK S) b d):NmE R L c st a d H
theorem Dg{x}:∀{as:List (PV×SD)}{acc o R},(∀a∈as,NC ks vs L a.1 a.2)->acc.length+as.length<az->R.length+5*as.length<az->NmE R L (5*as.length) (λo g=>PN ks vs ⟨#[124]⟩ x 0 o none none g) acc (as.map py) λf=>bb (compTurn f [7] (.call 95 [(.v 0),(.v 7)]) (.v 7) []) (as.map Pv) (iv acc,PN ks vs ⟨#[124]⟩ x 0 o none none<|G R L)
 |[],acc,o,R,_,_,_=>⟨[],R,o,by rw[u8];exact .pure,.refl,.nil⟩
 |a::as,acc,o,R,h,i,j=>by
  have b:R.length+5+5*as.length<az:=by rw[FB,cC,wp (5*_) 5,<-wn]at j;exact j
  obtain⟨t,S,e,g,k⟩:=h a (.head _) (R:=R)<|ac (pp _ _) b
  obtain⟨ts,T,n,d,l,p⟩:=Dg (x:=x) (as:=as) (acc:=acc++[t]) (o:=some<|.v a.1) (R:=S) (λa m=>h a<|.tail _ m) (by rw[ch,wn,wp [t].length];exact i)<|ac (lf g.len _) b
  rw[sK]at d;refine⟨t::ts,T,n,(fV (y:=ae t) (s1:=PN ks vs ⟨#[124]⟩ x 0 (some<|.v a.1) none none<|G R L) (s2:=PN ks vs ⟨#[124]⟩ x 0 (some<|.v a.1) none none<|G R L) (s3:=PN ks vs ⟨#[124]⟩ x 0 (some<|.v a.1) none none<|G S L) rfl d9 (by rw[aJ];exact(jU i).1)<|ke 9 [oc e]).two (by rw[<-gF]at d;exact d) λ_=>dk,?_,.cons (k.up l) p⟩
  rw[FB,cC,wp];exact g.trans l
theorem Ls(h:a.Nodup):(bK a).length=a.length:=by rw[r6 (we.sort h) λq=>d7.symm,eF]
theorem HK(u:Tb R)(h:bz R (bK us) t)(r:bc (SK R) us ds)(l:us.Nodup)(i:2<=ds.length)(n:ds.length<=3)(o:(ds.all λd=>HX d&&HT d)=true):PK R t (.lI ds)/\F5 R t:=by
 refine aO (VA r l) λj g k=>?_;subst g;rw[im]at i n;have f:∀q∈us,HX (j q)=true/\ye R 11 q:=λq m=>aE (bv.mp o (j q)<|to.mpr ⟨q,m,rfl⟩) λa b=>⟨a,Pr u b<|k q m⟩
 have e:=Ls l;exact⟨⟨us,j,h,e▸i,rfl,λq m=>⟨k q m,(f q m).2.s (by decide),(f q m).1⟩⟩,(G3 h (e▸i) (e▸n) λp m=>(f p<|eO.mp m).2).s (by decide)⟩
theorem H0{as:List (PV×SD)}(q:Tb R)(A:WD ks vs)(h:∀a∈as,NC ks vs L a.1 a.2)(C:((as.map py).map YT).Nodup)(D:2<=(as.map py).length)(f:(as.map py).length<=3)(w:((as.map py).all λd=>HX d&&HT d)=true)(n:R.length+20<az):u6 68 [wm ks vs,.v<|Zx<|as.map Pv] [some<|wm ks vs,none] R L 16 (.lI<|as.map py):=by
 have b:as.length<=3:=by rwa [im]at f
 have m:=ac (db (am (FS 5 b) (by decide)) _) n
 obtain⟨r,S,o,e,g,k⟩:=Dg (x:=.tup<|as.map Pv) (acc:=[]) (o:=none) h (by rw[tz,ss];exact ac b (by decide)) m
 have g:=g.up<|FS 5 b
 have u:=fb k;have F:=eH (t:=.v 7) (i:=3) (s:=PN ks vs ⟨#[124]⟩ (.tup<|as.map Pv) 0 none none none<|G R L) (y:=.tup<|as.map Pv) (src:=.l<|as.map Pv) rfl rfl e
 obtain⟨t,T,E,j,z⟩:=Bw (ns:=r) (L:=L) A.tab (u▸ac f (by decide))<|ac (am g.len<|db (by decide) _) n
 have p:=HK ((g.trans j).tb q) z (cZ k λ_ _ h=>h.up j) (Hu (g.tb q) k C) D f w;exact⟨t,T,kf 20 [od,od,od,od,ox F,oc E],g.trans j,p.1,p.2⟩
theorem H5(d:Tb R)(a:WD ks vs)(b:R.length+5<az):u6 68 [wm ks vs,.v<|Gf 192] [some<|wm ks vs,none] R L 16 (.lI [.atom 8,.atom 9]):=by
 obtain⟨u,S,e,g,k⟩:=Mz rE (L:=L) (m:=192) a (by decide) b
 have p:=HK (us:=[8,9]) (ds:=[.atom 8,.atom 9]) (g.tb d) (show bz S [8,9] u from k) (.cons ⟨rfl,by decide⟩<|.cons ⟨rfl,by decide⟩ .nil) (by decide) (v6 _) (ut ..) rfl
 exact⟨u,S,e,g.up<|wv _,p.1,p.2⟩
theorem H4(d:Tb R)(a:WD ks vs)(b:R.length+5<az):u6 68 [wm ks vs,.v<|Gf 0] [some<|wm ks vs,none] R L 16 .never:=by obtain⟨u,S,e,g,k⟩:=Mz rE (L:=L) (m:=0) a (wv _) b;exact⟨u,S,e,g.up<|wv _,k,(sQ (g.tb d)<|k▸rfl).s (ut ..)⟩
theorem RK(a:Tb R):u6 68 [wm ks vs,.v<|KH ⟨#[101]⟩ (.int 0) 0] [some<|wm ks vs,none] R L 16 .err:=⟨13,R,kf 20 [od,od],.refl,rfl,(sQ a rfl).s (ut ..)⟩
def FL{b:Type}(P:b->Prop):List b->Prop
 |[]=>True
 |a::l=>P a/\FL P l
theorem FL.at:∀{l},FL P l->∀a∈l,P a
 |_::_,h,a,m=>(rc.mp m).elim (λe=>e▸h.1) (FL.at h.2 a)
theorem IQ{a:UC}(g:Tb R)(d:WD ks vs)(h:a∈TM)(f:R.length+20<az):u6 68 [wm ks vs,.v a.1] [some<|wm ks vs,none] R L 16 a.2.1:=by
 have j:R.length+5<az:=ac (db (by decide) _) f
 have o:∀(m i:Nat)(q:(SL m 8192&&PM m)=true),u6 68 [wm ks vs,.v<|KI m i] [some<|wm ks vs,none] R L 16<|.one<|Ng m i:=λm i q=>aE q λa b=>(Bk rE d (io a) j).p g (by show(SL m 8192&&(PM m&&SL m 8192))=true;rw[a,b];rfl)
 have n:∀(k:List (Nat×Nat))(i:Nat)(q:(k.all λe=>SL e.1 8194)=true)(l:k.length<=2)(r:(HX (Gm k i)&&HT (Gm k i))=true),u6 68 [wm ks vs,.v<|G7 k i] [some<|wm ks vs,none] R L 16<|.one<|Gm k i:=λk i q l r=>(H3 rE d (λe m=>io<|bv.mp q e m) l j).p g r
 exact FL.at (l:=TM) (P:=λa=>u6 68 [wm ks vs,.v a.1] [some (wm ks vs),none] R L 16 a.2.1) ⟨H0 (as:=[(G7 [(1,0)] 0,Gm [(1,0)] 0),(KI 4 0,Ng 4 0)]) g d (FL.at ⟨λf=>H3 zF d (by decide) (by decide) f,λf=>Bk zF d (by decide) f,trivial⟩) (by decide) (v6 _) (by decide) rfl f,o 4 0 rfl,n _ 0 rfl (v6 _) rfl,n _ 1 rfl (v6 _) rfl,(Df rE d j).p g rfl,n _ 0 rfl (v6 _) rfl,(RL rE d j).p g rfl,(VZ rE d j).p g rfl,(My rE d (by decide) j).p g rfl,H4 g d j,H0 (as:=[(KI 8 1,Ng 8 1),(YG,.yT),(Gf 1,.atom 17)]) g d (FL.at ⟨λf=>Bk zF d (by decide) f,λf=>Df zF d f,λf=>VZ zF d f,trivial⟩) (by decide+kernel) (by decide) (v6 _) rfl f,RK g,n _ 0 rfl (Rs _) rfl,H5 g d j,o 2 1 rfl,n _ 0 rfl (by decide) rfl,n _ 0 rfl (by decide) rfl,o 8 1 rfl,trivial⟩ a h
end
def vJ:List PV:=(TM.take 16).map Pv
theorem Jn(c:r<16):∃a∈TM,vJ[r]?=some a.1:=by have b:=c;exact⟨(TM.take 16)[r],fw<|r5 b,by delta vJ;exact H1.trans<|congrArg _<|At b⟩
def nJ(a:UC):Bool:=(a.1.lD.bind jB).any λx=>x.AV.any λs=>s==⟨#[124]⟩
def pP:GE->Bool
 |.k _ _=>false
 |.t a=>nJ a
noncomputable def OT:Ex:=.and [(.cmp .Eq (.v 6) gV),(.cmp .Eq (.sub (.v 5) aH)<|.c<|.str ⟨#[124]⟩)]
theorem OS(n)(g)(h f e d c):(TM.map λa=>(ev FT CT<|n+30).b OT ⟨[h,f,e,d,c,some<|.v a.1,some<|ae 3],g⟩)=TM.map λa=>some (nJ a,⟨[h,f,e,d,c,some<|.v a.1,some<|ae 3],g⟩):=by kernel_rfl
noncomputable def XU:Ex:=.and [(.cmp .Eq (.sub (.v 3) aH)<|.c<|.str ⟨#[124]⟩),(.cmp .Gt (.bi .len<|.v 4) bJ)]
def tmN:List UC:=TM.filter λa=>!nJ a
theorem Rb:(TM.all λa=>a.1.lD.isSome)=true:=by decide+kernel
theorem Mx(n)(g)(f e d c):(tmN.map λa=>(ev FT CT<|n+30).b XU ⟨[f,e,d,some<|.v a.1,c,none,none],g⟩)=tmN.map λa=>some (false,⟨[f,e,d,some<|.v a.1,c,none,none],g⟩):=by kernel_rfl
section
variable{g:List GO} {l:List Int} {es:List GE}
def Py(l:List Int)(c:Option RV)(a:PV)(b:Option RV)(g:List GO)(o:Option GE):St:=⟨[some<|qg l,c,some<|dQ vJ,some<|.v a,b,o.map λe=>.v<|zA e,o.map λe=>ae (Ar e:Nat)],g⟩
def KV(es:List GE):RV:=.ml (some 1)<|es.map iJ
theorem L0(h:∀e∈es,gJ e)(j:es.length<az):Ok (λf=>f.e (.comp (.v 5) [(.ns [5,6],(.v 1),[OT])])<|Py l (some<|KV es) a none g none) (.ml none<|(es.filter pP).map zA,Py l (some<|KV es) a none g none):=by
 refine fN (pF (v:=iJ) (F:=λe=>.v (zA e)) (p:=pP) (after:=Py l none a none g) (own:=[5,6]) (elt:=.v 5) (t:=.ns [5,6]) (cs:=[OT]) (λe _=>by induction e<;>rfl) (l:=es) (out:=[]) (o:=none) (by rw[tz,ss];exact j) (λe m=>jk (by
  have d:=h e m;induction e with
  |k c s=>
   have q:aS g .Eq (ae (s:Nat)) (ae (3:Nat))=some false:=eT.trans<|congrArg some<|Uf.mpr λe=>absurd d.2 (by rw[ii e];decide)
   exact kb 9 [ob q]
  |t b=>exact Ok.of 30 λn=>dg (n+30)▸ww.mp (OS n g (some (qg l)) none (some (dQ vJ)) (some (.v a)) none) b d)) (λ_ _ _=>ke 5 [])) λo e=>?_
 rw[GM]at e;exact mW (t:=.ns [5,6]) (i:=1) (s:=Py l (some<|KV es) a none g none) rfl rfl e
inductive TZ(g:List GO)(es:List GE)(l:List Int):Prop
 |mk (a:UC) (b:List Int) (c:a∈TM) (e:ai 63 [qg l,KV es] g (.v a.1) [some<|qg b,some<|KV es] g):TZ g es l
theorem IM(h:∀e∈es,gJ e)(w:es.length<az):TZ g es l:=by
 obtain⟨r,c,u,e,_⟩:=jh (g:=g) (m:=16) (wv _) l;obtain⟨⟨x,p⟩,d,z⟩:=Jn u;obtain⟨y,s⟩:=Pi.mp<|bv.mp Rb _ d
 obtain rfl:=PV.lR s;have k:=L0 (g:=g) (l:=c) (a:=.tup y) h w;have j:=jH (g:=g) z;have o:aS g .Gt (ae (((es.filter pP).map zA).length:Nat)) (ae 1)=some (decide<|(1:Int)<(((es.filter pP).map zA).length:Nat)):=rfl
 induction q:nJ (.tup y,p)with
 |false=>
  have t:Ok (λf=>f.b XU<|Py c (some<|KV es) (.tup y) (some<|.ml none<|(es.filter pP).map zA) g none) (false,Py c (some<|KV es) (.tup y) (some<|.ml none<|(es.filter pP).map zA) g none):=Ok.of 30 λn=>dg (n+30)▸ww.mp (Mx n g (some<|qg c) (some<|KV es) (some<|dQ vJ)<|some<|.ml none<|(es.filter pP).map zA) (.tup y,p) (Re.mpr ⟨d,congrArg _ q⟩)
  exact⟨_,c,d,kf 20 [oc e,op j,ox k,ot t]⟩
 |true=>
  revert o;generalize decide ((1:Int)<(((es.filter pP).map zA).length:Nat))=b;intro o;have A:FL (λa:UC=>a∈TM->Ok (λf=>f.e (.comp (.v 5) [(.ns [5,6],(.v 1),[OT])])<|Py c (some<|KV es) a.1 none g none) (.ml none<|(es.filter pP).map zA,Py c (some<|KV es) a.1 none g none)->gy g (dQ vJ) (.int (r:Int))=some a.1->TZ g es l) (TM.filter nJ):=by
   induction b with
   |true=>exact⟨λd k j=>⟨(G7 [(1,0)] 0,.one<|Gm [(1,0)] 0,[[(1,0)]]),c,bZ (i:=16) rfl,kf 20 [oc e,op j,ox k,od,od,od,ob o,od,od]⟩,λd k j=>⟨(KI 8 1,.one<|Ng 8 1,[[(8,2)]]),c,bZ (i:=17) rfl,kf 20 [oc e,op j,ox k,od,od,od,ob o,od,od]⟩,trivial⟩
   |false=>exact⟨λd k j=>⟨_,c,d,kf 20 [oc e,op j,ox k,od,od,od,ob o]⟩,λd k j=>⟨_,c,d,kf 20 [oc e,op j,ox k,od,od,od,ob o]⟩,trivial⟩
  exact FL.at A (.tup y,p) (Re.mpr ⟨d,q⟩) d k j
end
def K0(l:List Int)(c:List GE)(b a:Option RV)(g:List GO):St:=⟨[some<|qg l,some<|.ml none<|c.map iJ,b,a],g⟩
section
variable{g:List GO} {l:List Int} {es:List GE}
theorem JB(e)(a:es.length<az):uJ (K0 l es o2 o3 g) .append (.pl 1) [iJ e]=some (.v .none,K0 l (es++[e]) o2 o3 g):=eU (s:=K0 l es o2 o3 g) (i:=1) (out:=es.map iJ) rfl (by rw[im];exact a) (by delta K0;exact AC▸rfl)
noncomputable def sgL:List Nat:=[3,0,1,2,3,3]
theorem xn{l:List Nat}(a:r<l.length):∃x∈l,(iv l)[r]?=some (.int (x:Int)):=⟨l[r],r5 a,by delta iv;exact H1.trans<|congrArg _<|At a⟩
inductive ElT(g:List GO)(l:List Int)(es:List GE)(b a:Option RV)(q:Nat):Prop
 |mk (e:GE) (c:List Int) (s:Nat) (d:gJ e) (h:oF (.v 2) (lb YX 1) (.int (q:Int)) (K0 l es b a g) (K0 c (es++[e]) (ni q) (ni s) g)):ElT g l es b a q
theorem N6(h:∀e∈es,gJ e)(j:es.length<az):ElT g l es o2 o3 q:=by
 obtain⟨r,o,v,p,_⟩:=jh (g:=g) (m:=6) (by decide) l
 refine aO (xn (l:=sgL) v) λs u d=>?_;have d:=jH (g:=g) d;have f:aS g .Eq (ae (s:Nat)) (ae (3:Nat))=some (co s 3):=eT;induction b:co s 3 with
 |true=>rw[b]at f;obtain⟨a,c,x,n⟩:=IM (g:=g) (l:=o) h j;exact⟨.t a,c,s,x,kt 12 [oc p,op d,ob f,oc n,om<|JB (g:=g) (l:=c) (o2:=ni q) (o3:=ni s) (.t a) j]⟩
 |false=>
  rw[b]at f;obtain⟨z,c,i,n,_⟩:=jh (g:=g) (m:=16) (by decide) o
  refine aO (xn (l:=CD.take 16) i) λm w y=>?_;exact⟨.k m s,c,s,⟨wf.mpr (fw w),by
   have:=bv.mp (by decide:(sgL.all λs=>co s 3||SL s 3)=true) s u
   rw[b]at this;exact io this⟩,kt 12 [oc p,op d,ob f,oc n,op (jH (g:=g) y),om (JB (g:=g) (l:=c) (o2:=ni q) (o3:=ni s) (.k m s) j)]⟩
inductive ElE(g:List GO)(n:Nat)(F:iU->Option (Option Fl×St)):Prop
 |mk (es:List GE) (l:List Int) (b a:Option RV) (h:∀e∈es,gJ e) (c:es.length=n) (e:Ok F (none,K0 l es b a g)):ElE g n F
theorem N7:∀{es l o2 o3},(∀e∈es,gJ e)->es.length+qs.length<az->ElE g (es.length+qs.length) λf=>bb (forTurn f (.v 2)<|lb YX 1) (iv qs)<|K0 l es o2 o3 g:=by
 induction qs with
 |nil=>exact@λes l o2 o3 h _=>⟨es,l,o2,o3,h,rfl,cT⟩
 |cons q qs n=>
  intro es l o2 o3 h i;obtain⟨e,j,s,o,p⟩:=N6 (g:=g) (l:=l) (o2:=o2) (o3:=o3) (q:=q) h (jU i).1;obtain⟨d,k,a,b,r,c,t⟩:=n (es:=es++[e]) (l:=j) (o2:=ni q) (o3:=ni s) (λx m=>(TD.mp m).elim (h x) λm=>wP.mp m▸o)<|ch▸(jU i).2.2
  exact⟨d,k,a,b,r,c.trans (by rw[ch,wn,wp [e].length];rfl),aQ p t⟩
inductive X'(g:List GO)(l:List Int):Prop
 |mk (es:List GE) (a:List Int) (h:∀e∈es,gJ e) (b:es.length<=3) (e:ai 64 [qg l] g (.ml none<|es.map iJ) [some<|qg a] g):X' g l
theorem NA:X' g l:=by
 obtain⟨r,d,c,j,_⟩:=jh (g:=g) (m:=4) (wv _) l;obtain⟨es,i,a,b,h,f,e⟩:=N7 (g:=g) (qs:=Db r) (es:=[]) (l:=d) (o2:=none) (o3:=none) (λ_ h=>nomatch h) (by rw[ba,tz,ss];exact Ev c (by decide))
 rw[ba,tz,ss]at f;exact⟨es,i,h,f▸cj c,kf 20 [os<|ka (t:=.v 2) (b:=lb YX 1) (it:=.bi .range<|.call 62 [(.v 0),jA]) (s:=K0 l [] none none g) (s1:=K0 d [] none none g) (ke 12 [oc j,ov<|fH (g:=g)<|am (ck c) (by decide)]) (dt (g:=g) (n:=r))<|cz e]⟩
end
noncomputable def lA{a:Type}:Nat->List a->List a
 |0,l=>l.tail++l.head?.toList
 |1,l=>l.dropLast
 |_,l=>l.reverse
theorem SV(k:Ok (λf=>gS f o s) (p,s))(j:p.aD s=some c)(i:xN s.g b c=true)(h:Ok (λf=>ua f a s) (us,s1))(d:uJ s1 b p us=some r):Ok (λf=>f.e (.bm b o a) s) r:=Ok.up (F:=λf=>nG f CT (.bm b o a) s) (k.two h λ_ m l=>bI m<|bI j<|(if_pos i).trans<|bI l d) λ_=>oz ..
theorem RH(b:a[i]?=some (some c)):Ok (λf=>gS f (.v i) ⟨a,g⟩) (.pl i,⟨a,g⟩):=Ok.of 0 λ_=>Ml b
theorem Be(h:g[n]?=some (.list l))(a:xN g b (ak n)=((cA g<|ak n).isSome&& !isTup (ak n))):xN g b (ak n)=true:=by rw[a,show cA g (ak n)=some l from bI h rfl];rfl
theorem AZ(b:a[i]?=some (some<|ak n))(l):(Op.pl i).store ⟨a,g⟩ (.ml none l)=some ⟨a,g.set n<|.list l⟩:=bI (eI b) rfl
theorem wJ(h:g[n]?=some (.list l)):cA g (ak n)=some l:=bI h rfl
theorem NT(a:rs[i]?=some (some<|ak n))(h:g[n]?=some (.list l)):Ok (λf=>f.e (.bm .reverse (.v i) []) ⟨rs,g⟩) (.v .none,⟨rs,g.set n<|.list l.reverse⟩):=by
 refine SV (RH a) (eI a) (Be h rfl) .pure<|bI (eI a) ?_
 exact bI (wJ h)<|mI (AZ a _) rfl
theorem NU(a:rs[i]?=some (some<|ak n))(h:g[n]?=some (.list l))(b:l.length<az)(c:Ok (λf=>f.e e ⟨rs,g⟩) (.v x,⟨rs,g⟩)):Ok (λf=>f.e (.bm .append (.v i) [e]) ⟨rs,g⟩) (.v .none,⟨rs,g.set n<|.list<|l++[x]⟩):=by
 refine SV (us:=[x]) (s1:=⟨rs,g⟩) (RH a) (eI a) (Be h rfl) (c.one λ_ e=>bI e rfl)<|bI (eI a) ?_
 exact bI (wJ h)<|(if_pos b).trans<|mI (AZ a _) rfl
theorem DM(a:rs[i]?=some (some<|ak n))(h:g[n]?=some (.list l))(c:idx l j=some k)(b:l[k]?=some x)(d:Ok (λf=>f.e e ⟨rs,g⟩) (ae j,⟨rs,g⟩)):Ok (λf=>f.e (.bm .pop (.v i) [e]) ⟨rs,g⟩) (.v x,⟨rs,g.set n<|.list<|l.eraseIdx k⟩):=by
 refine SV (us:=[.int j]) (s1:=⟨rs,g⟩) (RH a) (eI a) (Be h rfl) (d.one λ_ e=>bI e rfl)<|bI (eI a) ?_
 exact bI (wJ h)<|bI c<|bI b<|mI (AZ a _) rfl
theorem Q9(h:g[n]?=some (.list l)):cF g (ak n)=some (!l.isEmpty):=mI (show cA g (ak n)=some l from bI h rfl) rfl
theorem te:∀{g:List GO}{n o},g[n]?=some o->g.set n o=g
 |_::_,0,_,h=>by obtain rfl:=sJ h;rfl
 |_::_,n+1,_,h=>congrArg (_::·)<|te (n:=n) h
theorem get_set:∀{g:List GO}{n o p},g[n]?=some o->(g.set n p)[n]?=some p
 |_::_,0,_,_,_=>rfl
 |_::g,n+1,_,_,h=>get_set (g:=g) (n:=n) h
theorem zm{b:Nat}(h:g[n]?=some (.list l))(f:l.length<az)(o:b<3):ai 78 [ak n,ae b] g (.v .none) [none,none] (g.set n<|.list<|lA b l):=by
 have d:=NT (i:=0) (rs:=[some<|ak n,ni 2,none]) rfl h
 have c:=Q9 h
 match b,o with
 |2,_=>exact kf 20 [od,o9 d]
 |0,_=>match l,c,h,f with
  |[],c,h,_=>
   show ai 78 _ g _ _ (g.set n<|.list [])
   rw[te h];exact kf 20 [od,ob c]
  |x::l,c,h,f=>
   have p:=DM (i:=0) (rs:=[some<|ak n,ni 0,none]) (j:=0) (k:=0) (e:=.ite (.cmp .Eq (.v 1) aH) aH<|.neg bJ) rfl h rfl rfl<|ke 9 [od]
   have a:=NU (i:=0) (rs:=[some<|ak n,ni 0,some<|.v x]) (g:=g.set n<|.list l) (e:=.v 2) (x:=x) (l:=l) rfl (get_set h) (cM f)<|ke 9 []
   rw[Ah]at a;exact kf 20 [od,ob c,o9 p,od,o9 a]
 |1,_=>
  rcases AA l with e|⟨k,x,e⟩
  .subst e;show ai 78 _ g _ _ (g.set n<|.list [])
   rw[te h];exact kf 20 [od,ob c]
  .rw[AB]at e;subst e;have c:cF g (ak n)=some true:=by refine c.trans ?_;induction k<;>rfl
   have m:idx (k++[x]) (-1)=some k.length:=by
    show(if 0<(k++[x]).length then some ((k++[x]).length - 1 - 0)else none)=_
    refine ch▸?_;exact if_pos<|wv k.length
   have p:=DM (i:=0) (rs:=[some<|ak n,ni 1,none]) (j:= -1) (k:=k.length) (e:=.ite (.cmp .Eq (.v 1) aH) aH<|.neg bJ) rfl h m (by rw[Fk<|v6 _,gX];rfl)<|ke 9 [od]
   rw[show(k++[x]).eraseIdx k.length=lA 1 (k++[x]) by rw[List.eraseIdx_append_of_length_le<|v6 _,gX];exact(u8 k).trans (nA).symm]at p
   exact kf 20 [od,ob c,o9 p,od]
noncomputable def sX:Str:=⟨#[120]⟩
def oh(t:Nat):PV:=.tup [.str sX,.int (t:Int),.int 0]
def A7(a:List Nat):List PV:=[.int 13,.tup [],.tup<|a.map oh,.int 3,.tup [],.int 0]
noncomputable def HU:List (Nat×Nat):=[(4,6),(1,17),(512,4),(256,5),(8193,21),(8,19),(192,12),(64,8)]
noncomputable def w9(c:Nat):Bool:=[1,8,64,256].contains c
def Fc(p:List Nat):Bool:=p.any w9
def Bf(p:List Nat):Bool:=p.all λc=>HU.any (λa=>co a.1 c)||co c 3
abbrev Zi(R:List PV)(a p:List Nat):Prop:=bc (λu c=>KX R c u) a p
def pY(R:List PV)(q:Nat)(p:List Nat):Prop:=Bf p=true/\∃a,Zi R a p/\R[q]?=some (.tup<|A7 a)
noncomputable def Wg:Ex:=.and [(.cmp .NotEq (.v 3) jA),(.call 19 [(.v 0),(.v 3)]),(.cmp .NotEq (.call 0 [(.v 0),(.v 3)]) sy)]
theorem Nb(n)(X)(L)(d c):(HU.map λa=>(ev FT CT<|n+40).b Wg ⟨[some<|ak 0,d,c,some<|ae (a.2:Nat)],G (B++X) L⟩)=HU.map λa=>some (w9 a.1,⟨[some<|ak 0,d,c,some<|ae (a.2:Nat)],G (B++X) L⟩):=by kernel_rfl
theorem S8:(HU.all λa=>co a.1 192||decide (zx a.1=[a.2]))=true:=by decide+kernel
section
variable{c q:Nat}
theorem Xg(d:Tb R)(b:a∈HU)(h:KX R a.1 u):u=a.2:=by
 rcases FM.mp (bv.mp S8 a b)with e|e
 .have m:=wP.mp (Re.mpr ⟨b,e⟩:a∈HU.filter λa=>co a.1 192);subst m;obtain⟨X,rfl⟩:=d;have f:aM (.tup [.int 6,.tup<|iv [8,9]]) (B++X)=some u:=h
  exact(bn<|f.symm.trans<|kh (i:=12) (by kernel_rfl))
 .delta KX at h;rw[of_decide_eq_true e]at h;exact h
theorem Wf(d:Tb R)(o m)(t:(HU.any (λa=>co a.1 c)||co c 3)=true)(h:KX R c u):Ok (λf=>f.b Wg ⟨[some<|ak 0,o,m,ni u],G R L⟩) (w9 c,⟨[some<|ak 0,o,m,ni u],G R L⟩):=by
 rcases FM.mp t with e|e
 .refine aO (P3.mp e) λa r e=>?_;have e:=ii e;subst e;obtain rfl:=Xg d r h;obtain⟨X,rfl⟩:=d;exact Ok.of 40 λn=>dg (n+40)▸ww.mp (Nb n X L o m) a r
 .have e:=ii e;subst e;have h:KM R 3 u:=h;have p:=h.is d 4 (by decide) (by decide) (by decide)
  have n5:=h.is d 5 (by decide) (by decide) (by decide)
  have s:=mP (l:=[17,18]) (x:=u) h<|v6 _
  have k:ai 18 [ak 0,ae u] (G R L) (dj false) [none,none] (G R L):=kf 20 [op<|bj (L:=L) s,od,od]
  have i:ai 19 [ak 0,ae u] (G R L) (dj false) [none,none] (G R L):=kf 20 [ob<|ao (g:=G R L) (j:=4)<|(cX u 4).trans p,od,ob<|ao (g:=G R L) (j:=5)<|(cX u 5).trans n5,od,oc k]
  exact kb 12 [ob<|xH (g:=G R L) (j:=4)<|(congrArg (!·)<|cX u 4).trans<|congrArg (!·) p,oc i,od]
def Uy(g:List GO)(q:Nat)(b a:Option RV):St:=⟨[some<|ak 0,ni q,b,a],g⟩
theorem NP(k:Tb R){g p}(h:Zi R g p):∀{o2 o3},Bf p=true->∃b a,Ok (λf=>bb (forTurn f (.v 2)<|lb YZ 0) (g.map oh)<|Uy (G R L) q o2 o3) (bif Fc p then some (.ret<|dj true)else none,Uy (G R L) q b a):=by
 induction h with
 |nil=>exact λ{o2 o3} _=>⟨o2,o3,cT⟩
 | @cons u c g p h _ j=>
  intro o2 o3 i;have d:=Wf (L:=L) k (ni q) (some<|.v<|oh u) (sB.mp i).1 h
  show∃b a,Ok _ (bif w9 c||Fc p then _ else _,_)
  induction e:w9 c with
  |true=>rw[e]at d;exact⟨_,_,(Sv 9 [od,ot d]:Ok (λf=>forTurn f (.v 2) (lb YZ 0) (oh u)<|Uy (G R L) q o2 o3) (some<|.ret<|dj true,Uy (G R L) q (some<|.v<|oh u)<|ni u)).one λ_=>qQ⟩
  |false=>rw[e]at d;exact jF (j (o2:=some<|.v<|oh u) (o3:=ni u) (sB.mp i).2) λb a l=>⟨b,a,aQ (kt 9 [od,ot d]) l⟩
theorem zr(m:Tb R)(h:pY R q p):ai 37 [ak 0,ae q] (G R L) (dj<|Fc p) [none,none] (G R L):=by
 refine sA λC f=>?_;obtain⟨j,d,k,b⟩:=h;refine jF (NP (L:=L) (q:=q) m k (o2:=none) (o3:=none) j) λi g a=>?_;have a:Kl (.v 2) (lb YZ 0) (.l<|d.map oh) (Uy (G R L) q none none) (((bif Fc p then some (.ret<|dj true)else none:Option Fl)).getD .dK) (Uy (G R L) q i g):=a.map λ_=>rfl
 refine f ?_;induction e:Fc p with
 |true=>rw[e]at a;exact kf 20 [op<|bj (L:=L) b,od,ol a]
 |false=>rw[e]at a;exact kf 20 [op<|bj (L:=L) b,od,ol a]
end
theorem IW{r:Type}{n l0 v}{F:r->RV}{p}{after:Option r->St}{own elt t cs}(H:∀o,(after o).g[n]?=some (.list l0))(I:∀a o,bY t (v a) (after o)=some (after<|some a)){l:List r}:∀{out o i k},l0.drop i=l.map v->l.length<k->out.length+l.length<az->(∀a∈l,Ok (λf=>iQ f cs<|after<|some a) (p a,after<|some a))->(∀a∈l,p a=true->Ok (λf=>f.e elt<|after<|some a) (F a,after<|some a))->∃M,Ok (λf=>je (λz:List PV×St=>z.2.g) n (compTurn f own elt t cs) k i (out,after o)) (none,(out++(l.filter p).map λa=>(F a).eJ,after M)):=by
 induction l with
 |nil=>
  intro out;intro o;intro i;intro u;induction u with
  |zero=>exact@λ_ b _ _ _=>absurd b<|dF _
  |succ k=>
   intro e _ _ _ _;refine⟨o,?_⟩;show Ok _ (none,(out++[],_));rw[u8];refine Ok.pure.congr λf=>?_;refine(M4 (gl:=λz:List PV×St=>z.2.g) (H ..)).trans ?_;show(match l0[i]? with|none=>_|some x=>_)=_
   exact(dy.mpr<|fy.mp e)▸rfl
 |cons q L E=>
  intro out;intro o;intro i;intro s;induction s with
  |zero=>exact@λ_ b _ _ _=>absurd b<|dF _
  |succ k=>
   intro e b O A y;have a:=jU O;have N:l0[i]?=some (v q):=by have:=congrArg jB e;rw[lM]at this;exact this
   have J:l0.drop (i+1)=L.map v:=by have:=congrArg yh e;rw[nu]at this;exact this
   have d:=A q<|.head _
   have h:∀{D C:List PV×St},Ok (λf=>compTurn f own elt t cs (v q) (out,after o)) (none,D)->Ok (λf=>je (λz:List PV×St=>z.2.g) n (compTurn f own elt t cs) k (i+1) D) (none,C)->Ok (λf=>je (λz:List PV×St=>z.2.g) n (compTurn f own elt t cs) (k+1) i (out,after o)) (none,C):=λd c=>d.two c λf Q P=>by
    refine(M4 (gl:=λz:List PV×St=>z.2.g) (H ..)).trans ?_;show(match l0[i]? with|none=>_|some x=>_)=_
    refine N▸?_;exact bI Q P
   induction j:p q with
   |true=>
    rw[j]at d;obtain⟨w,c⟩:=E (out:=out++[(F q).eJ]) (o:=some q) J (bg b) (ch▸a.2.2) (λq m=>A q<|.tail _ m) λq m=>y q<|.tail _ m
    rw[sK]at c;refine⟨w,?_⟩;rw[aX,if_pos j];exact h (fV (I q o) d a.1<|y q (.head _) j) c
   |false=>
    rw[j]at d;obtain⟨w,c⟩:=E (out:=out) (o:=some q) J (bg b) a.2.1 (λq m=>A q<|.tail _ m) λq m=>y q<|.tail _ m
    refine⟨w,?_⟩;rw[aX,if_neg<|j▸xz]
    exact h (sx (I q o) d) c
abbrev Gp:Type:=Nat×List Nat
noncomputable abbrev ib(a:Gp):PV:=.int (a.1:Int)
def hG(a:Gp):Bool:=Fc a.2
section
variable{g:List GO} {sg:List Gp} {n:Nat}
theorem sd(h:g[n]?=some (.list l)):srcOf g (ak n)=some (.g n (l.length+1) 0):=bI h rfl
def P6(g:List GO)(n:Nat)(c:Option RV)(a b:Option Gp):St:=⟨[some<|ak 0,some<|ak n,c,a.map λa=>.v<|ib a,b.map λa=>.v<|ib a],g⟩
theorem Wl(d:Tb R)(h:∀a∈sg,pY R a.1 a.2)(b:(G R L)[n]?=some (.list<|sg.map ib))(c:sg.length<az):Ok (λf=>f.e (.comp (.v 3) [(.v 3,(.v 1),[(.call 37 [(.v 0),(.v 3)])])])<|P6 (G R L) n none none none) (.ml none<|(sg.filter hG).map ib,P6 (G R L) n none none none):=by
 obtain⟨o,e⟩:=IW (l0:=sg.map ib) (v:=ib) (F:=λa=>.v<|ib a) (p:=hG) (after:=λo=>P6 (G R L) n none o none) (own:=[3]) (elt:=.v 3) (t:=.v 3) (cs:=[(.call 37 [(.v 0),(.v 3)])]) (λ_=>b) (λ_ _=>rfl) (l:=sg) (out:=[]) (o:=none) (i:=0) (k:=(sg.map ib).length+1) rfl (by rw[im];exact Ix _) (by rw[tz,ss];exact c) (λa m=>jk<|kb 9 [oc<|zr (L:=L) d<|h a m,od]) (λ_ _ _=>ke 5 [])
 rw[GM]at e;exact eH (t:=.v 3) (i:=1) (s:=P6 (G R L) n none none none) (y:=.aZ n) rfl (sd b) e
theorem Wj(j:Tb R)(h:∀a∈sg,pY R a.1 a.2)(c:(G R L)[n]?=some (.list<|sg.map ib))(d:sg.length<az)(b):Ok (λf=>f.e (.comp (.v 4) [(.v 4,(.v 1),[(.not<|.call 37 [(.v 0),(.v 4)])])])<|P6 (G R L) n b none none) (.ml none<|(sg.filter λa=>!hG a).map ib,P6 (G R L) n b none none):=by
 obtain⟨o,e⟩:=IW (l0:=sg.map ib) (v:=ib) (F:=λa=>.v<|ib a) (p:=λa=>!hG a) (after:=λo=>P6 (G R L) n b none o) (own:=[4]) (elt:=.v 4) (t:=.v 4) (cs:=[(.not<|.call 37 [(.v 0),(.v 4)])]) (λ_=>c) (λ_ _=>rfl) (l:=sg) (out:=[]) (o:=none) (i:=0) (k:=(sg.map ib).length+1) rfl (by rw[im];exact Ix _) (by rw[tz,ss];exact d) (λa m=>jk<|kb 9 [oc<|zr (L:=L) j<|h a m,od]) (λ_ _ _=>ke 5 [])
 rw[GM]at e;exact eH (t:=.v 4) (i:=1) (s:=P6 (G R L) n b none none) (y:=.aZ n) rfl (sd c) e
def lZ(sg:List Gp):List Gp:=sg.filter hG++sg.filter λa=>!hG a
theorem IU(e:Tb R)(h:∀a∈sg,pY R a.1 a.2)(d:(G R L)[n]?=some (.list<|sg.map ib))(b:sg.length<=10):ai 38 [ak 0,ak n] (G R L) (.ml none<|(lZ sg).map ib) [none,none] (G R L):=by
 have c:sg.length<az:=ac b (by decide)
 have ad:hK (G R L) .Add (.ml none<|(sg.filter hG).map ib) (.ml none<|(sg.filter λa=>!hG a).map ib)=some (.ml none<|(lZ sg).map ib):=by
  have q:((sg.filter hG).map ib).length+((sg.filter λa=>!hG a).map ib).length<=az:=by rw[im,im];exact am (TE (am (aT _ _) b)<|am (aT _ _) b) (by decide)
  delta lZ;exact AC▸if_pos ⟨q,rfl⟩
 exact kf 20 [ox<|Wl e h d c,ox<|Wj e h d c<|some<|.ml none<|(sg.filter hG).map ib,ov ad]
end
theorem Lr(n)(X)(L):([(2,2),(2,3),(13,2),(13,3)].map λ(a:Nat×Nat)=>(ev FT CT<|n+40).call 16 [ak 0,.ml (some 1)<|iv<|UF a.2 a.1]<|G (B++X) L)=[(2,2),(2,3),(13,2),(13,3)].map λ(a:Nat×Nat)=>some (ae (a.1:Nat),[none,none],G (B++X) L):=by kernel_rfl
section
variable{ro:Nat} {ts:List (Nat×Nat)}
theorem Xa(h:isBad e=some y):y=2\/y=13:=by
 induction e with
 |k=>exact nE h
 |sp p=>induction p with
  |never=>exact .inl (bn h).symm
  |err=>exact .inr (bn h).symm
  |_=>exact nE h
theorem XV{a:List SE}(h:a.findSome? isBad=some z):z=2\/z=13:=(List.exists_of_findSome?_eq_some h).elim λ_ q=>Xa q.2
theorem Jp(l:List Nat):∀(c:List Nat),l.foldl (λc _=>c++[z]) c=c++UF l.length z:=by
 induction l with
 |nil=>exact@λc=>(u8 c).symm
 |cons _ l a=>intro c;rw[cO,a,sK];rfl
theorem WJ(J:Tb R)(h:yf R ts (H++.sp (.lI Q)::O))(x:bq (G R L) 1 g (ab ts))(ht:isTup g=false)(E:(H++.sp (.lI Q)::O).findSome? isBad=some z)(M:Q.length<=3)(y:ts.length<=10):ai 35 [ak 10,g,ae (H.length:Nat),ae ro] (G R L) (ae (z:Nat)) [none,Y' g,none,none] (G R L):=by
 refine sA λC Z=>?_;obtain⟨td,⟨tq,s⟩,tr,e,N,he,h2⟩:=uy h;subst e;refine Ao he λe3 i _=>AG i λd k ho F A hq=>?_;subst e3;have tl:=fb N;have U3:=am (sO d) (by rw[A,im]at M;exact M)
 have I:∀{c r:Nat},c+r<=3->c<az:=λh=>ac (am (pp _ _) h) (by decide)
 have w:∃o,Ok (λf=>bb (forTurn f (.v 6)<|lb (Jx 88) 2) (iv<|bK d)<|Gg (G R L) g td.length ro [] none) (none,Gg (G R L) g td.length ro (UF (bK d).length z) o):=by
  refine aO (w8 (t:=.v 6) (b:=lb (Jx 88) 2) (after:=λS o=>Gg (G R L) g td.length ro S o) (f:=λc _=>c++[z]) (P:=λr(c:List Nat)=>c.length+r.length<=3/\∀q∈r,q∈bK d) (λq r c o p=>by
   obtain⟨_,Y,V,W⟩:=(⟨eO.mp<|p.2 q<|.head _,hq q<|eO.mp<|p.2 q<|.head _⟩:q∈d/\SK R q (k q)/\F5 R q/\HX (k q)=true)
   have D:(H++.sp (.one<|k q)::O).findSome? isBad=some z:=by rw[Ay]at E⊢;exact E
   refine⟨CH x ht y (I p.1) (Qb (fi:=88) (j:=89) rfl J (kx N (.cons (show EK R (q,3) (.sp (.one (k q))) from⟨rfl,⟨Y,W⟩,V⟩) h2)) (.ml _) D (by rw[ch,FB]at y⊢;exact y)),?_,λq m=>p.2 q (.tail _ m)⟩
   rw[ch];exact(AT c.length 1 r.length).symm▸p.1) (qs:=bK d) (c:=[]) (o:=none) ⟨(ss _).symm▸U3,λ_ h=>h⟩) λo e _=>?_
  rw[Jp]at e;exact⟨o,e⟩
 have U:=Vt (A9 x)<|gz rfl
 have T:ai 16 [ak 0,.ml (some 1)<|iv<|UF (bK d).length z] (G R L) (ae (z:Nat)) [none,none] (G R L):=by
  refine fN J λX i=>?_;subst i;refine Aq (n:=40) λn=>dg (n+40)▸ww.mp (Lr n X L) (z,(bK d).length) ?_;have:(bK d).length=2\/(bK d).length=3:=by omega
  rcases XV E with rfl|rfl<;>rcases this with e|e<;>rw[e]<;>decide
 have u:=mP ho F;refine Z ?_;refine tl▸?_;obtain⟨o,w⟩:=w;exact Wz (fd:=Jx 88) rfl (Ee (a:=.aZ 10) x (rs:=((Gg (G R L) g td.length ro (UF (bK d).length z) o).put 5 none).r) rfl (ae (z:Nat)) [.int (td.length:Nat),.int (ro:Int)]) 20 [op U,od,op<|bj (L:=L) u,od,ol<|cz (src:=.l _) w,oc T]
end
noncomputable def LW(m h c:Nat->List PV):List GO:=[.list<|m 0,.list<|m 1,.list<|m 2,.list<|m 3,.list<|h 0,.list<|h 1,.list<|h 2,.list<|h 3,.list [.lst<|c 0,.lst<|c 1,.lst<|c 2,.lst<|c 3]]
noncomputable def Lv:SP->Bool
 |.lI _=>true
 |_=>false
def wy:GE->Bool
 |.k _ _=>false
 |.t a=>Lv a.2.1
theorem Lu(g):(TM.map λa=>(aS g .Eq (.v<|((a.1.lD).bind jB).getD .none)<|.v<|.str ⟨#[124]⟩,aS g .Eq (.v a.1)<|.v<|Gf 192))=TM.map λa=>(some<|nJ a,some<|Lv a.2.1&& !nJ a):=by kernel_rfl
theorem Ra:(TM.all λa=>(a.1.lD.bind jB).isSome&&(match a.2.1 with|.lI b=>bx b.length 3|_=>!nJ a))=true:=by decide+kernel
noncomputable def tT:Nat->Int->List GE->Int
 |_,f,[]=>f
 |i,f,e::a=>tT (i+1) (bif wy e then(i:Int)else f) a
theorem IB:∀{i f},tT i f es=f\/∃a e b,es=a++e::b/\wy e=true/\tT i f es=((i+a.length:Nat):Int):=by
 induction es with
 |nil=>exact@λ_ _=>.inl rfl
 |cons e es d=>
  intro i f;show tT (i+1) (bif wy e then(i:Int)else f) es=f\/∃a c b,_/\_/\tT (i+1) (bif wy e then(i:Int)else f) es=_;rcases d (i:=i+1) (f:=bif wy e then(i:Int)else f)with h|⟨a,c,b,k,j,g⟩
  .rw[h];induction q:wy e with
   |true=>exact .inr ⟨[],e,es,rfl,q,rfl⟩
   |false=>exact .inl rfl
  .exact .inr ⟨e::a,c,b,congrArg _ k,j,g.trans<|congrArg Al (by rw[FB,wn,wp 1])⟩
section
variable{g:List GO} {kw vw:List PV} {what how:Nat}
def Tx(kw vw:List PV)(g:List GO)(what how:Nat)(f:Int)(o:Option Nat):St:=⟨[some<|wm kw vw,ni what,ni how,some<|.v<|.lst pO,some<|.v<|.lst uU,none,none,none,none,none,some<|ak 14,some<|ae f,on o,none,none,none,none],g⟩
theorem Oo{td}(A:g[14]?=some (.list<|D.map iJ))(r:gJ e)(F:D=td++e::I):oF (.v 12) (lb Xp 6) (.int (td.length:Nat)) (Tx kw vw g what how f o) (Tx kw vw g what how (bif wy e then(td.length:Int)else f)<|some td.length):=by
 have z:(D.map iJ)[td.length]?=some (iJ e):=by rw[H1,F,Fk<|v6 _,gX];rfl
 induction e with
 |k m s=>
  have b:=oW A z;have q:aS g .Eq (ae (s:Nat)) (ae (3:Nat))=some false:=eT.trans<|congrArg some<|Uf.mpr λe=>absurd r.2 (by rw[ii e];decide)
  exact kt 12 [op b,od,ob q]
 |t a=>
  have u:=ww.mp (Lu g) a r;obtain⟨i,j⟩:_/\_:=sB.mp<|bv.mp Ra a r
  obtain⟨x,p⟩:=a;obtain⟨w,n⟩:=Pi.mp i;refine bE n λy H C=>?_;obtain rfl:=PV.lR H;obtain⟨E,l⟩|⟨⟩:=y
  .exact nE C
  rename_i E l;cases bn C;have b:=oW A z;have c:=congrArg Pv u;have h:=congrArg py u;show oF _ _ _ _ (Tx kw vw g what how (bif Lv p.1 then(td.length:Int)else f)<|some td.length)
  induction q:Lv p.1 with
  |true=>
   induction d:nJ (.tup<|w::l,p)with
   |true=>rw[d]at c;exact kt 12 [op b,od,od,op b,od,od,ob c]
   |false=>rw[d]at c;rw[q,d]at h;exact kt 12 [op b,od,od,op b,od,od,ob c,op b,od,ob h]
  |false=>
   have d:nJ (.tup<|w::l,p)=false:=by revert j q;induction p.1<;>first|exact λj _=>(ry _).mp j|exact λ_ q=>ff q.symm
   replace c:=d▸c;rw[q]at h;exact kt 12 [op b,od,od,op b,od,od,ob c,op b,od,ob h]
theorem Oq(i:g[14]?=some (.list<|c.map iJ))(j:∀e∈c,gJ e):∀{td f o},c=td++tr->∃a,Ok (λF=>bb (forTurn F (.v 12)<|lb Xp 6) (iv<|IN td.length tr.length)<|Tx kw vw g what how f o) (none,Tx kw vw g what how (tT td.length f tr) a):=by
 induction tr with
 |nil=>exact@λ_ _ o _=>⟨o,cT⟩
 |cons e tr d=>
  intro td f o h;obtain⟨a,b⟩:=d (td:=td++[e]) (f:=bif wy e then(td.length:Int)else f) (o:=some td.length) (by rw[h,sK];rfl)
  rw[ch]at b;exact⟨a,aQ (Oo i (j e<|h▸br _ (.head _)) h) b⟩
theorem Tw(d:g[14]?=some (.list<|a.map iJ))(j:∀e∈a,gJ e)(i:a.length<=10):∃o,Ok (λF=>cH F (.bB (.v 12) (.bi .range<|.bi .len<|.v 10)<|lb Xp 6)<|Tx kw vw g what how (-1) none) (.dK,Tx kw vw g what how (tT 0 (-1) a) o):=by refine fN (Oq (kw:=kw) (vw:=vw) (what:=what) (how:=how) d j (tr:=a) (td:=[]) (f:= -1) (o:=none) rfl) λo h=>?_;have c:=Du d;rw[im]at c;rw[show IN ([]:List GE).length a.length=Db a.length from(WP).symm]at h;exact⟨o,ka (t:=.v 12) (b:=lb Xp 6) (it:=.bi .range<|.bi .len<|.v 10) (ke 9 [ov c,ov<|fH (g:=g) i]) (dt (g:=g) (n:=a.length))<|cz (src:=.l _) h⟩
end
def Res(S:List PV)(a:List GE)(c t:Nat):Prop:=match k9 a with
 |some b=>t=b
 |none=>UL S 27 (kn c<|a.map t8) t
inductive SpR(b:Nat)(f:List RV)(d:List (Option RV))(R:List PV)(L:List GO)(c:List GE)(a:Nat):Prop
 |mk (t:Nat) (S:List PV) (e:ai b f (G R L) (ae t) d (G S L)) (g:dU R 607 S) (k:Res S c a t):SpR b f d R L c a
theorem Vo:(TM.all λa=>match a.2.1 with|.lI b=>bx b.length 3|_=>true)=true:=by decide+kernel
structure F7(R:List PV)(L:List GO)(es:List GE)(ts:List (Nat×Nat)):Prop where
 hm:L[2]?=some (.list<|es.map iJ)
 hh:L[6]?=some (.list<|ab ts)
 h:yf R ts (es.map t8)
 ok:∀e∈es,gJ e
 hl:es.length<=3
section
variable{what how ro:Nat} {ts:List (Nat×Nat)}
theorem F7.tl (h:F7 R L q ts):ts.length<=10:=by rw[fb h.h,im];exact am h.hl (ut ..)
theorem F7.hx (h:F7 R L q ts) (S):bq (G S L) 1 (ak 18) (ab ts):=.aZ h.hh
theorem TB(a):rf a<=a.length:=by
 induction a with
 |nil=>exact v6 _
 |cons e a b=>show isU e+rf a<=a.length+1;rw[wp];exact TE (b) (match e with|.k ..=>Rs _|.sp (.one _)=>Rs _|.sp (.lI _)=>v6 _|.sp .never=>Rs _|.sp .err=>Rs _)
theorem F7.u3 (h:F7 R L D ts) (z) (m:SE.sp (.lI z)∈D.map t8):z.length<=3:=by
 refine aO (to.mp m) λe C q=>?_;have k:=h.ok e C;induction e with
 |k=>exact nomatch q
 |t a=>have u:=bv.mp Vo a k;rw[SE.sp.inj q]at u;exact io u
theorem F7.sp (C:Tb R) (h:F7 R L q ts) (u:k9 q=none) (z:R.length+1010<az):B9 R L 3 (q.map t8) ts (ak 18):=⟨C,h.h,h.hx,rfl,(pW q).trans u,am (TB _) (by rw[im];exact h.hl),Oy h.ok u h.hl,h.u3,h.tl,ac (db (by decide:657<=1010) _) z⟩
theorem Qv(d:Tb R)(h:F7 R L c ts)(f:R.length+1010<az):SpR 36 [ak 10,ak 18,ae ro] [none,none,none] R L c ro:=by
 induction a:k9 c with
 |some b=>exact⟨b,R,Qb (fi:=36) (j:=35) rfl d h.h (h.hx R) ((pW c).trans a) h.tl,.refl,by delta Res;exact a▸rfl⟩
 |none=>
  obtain⟨t,S,e,g,k⟩:=zo (N:=3) (L:=L) (ro:=ro) (ut ..)<|h.sp d a f
  exact⟨t,S,e,g,by delta Res;refine a▸?_;exact k⟩
theorem XG(j:Tb R)(h:F7 R L d ts)(n:R.length+1010<az)(l:d=ed++e::er)(i:wy e=true):SpR 35 [ak 10,ak 18,ae (ed.length:Nat),ae ro] [none,none,none,none] R L d ro:=by
 obtain⟨ds,m⟩:∃ds,t8 e=.sp (.lI ds):=by
  induction e with
  |k=>exact ff i
  |t a=>obtain⟨x,p,w⟩:=a;induction p<;>first|exact ff i|exact⟨_,rfl⟩
 have c:d.map t8=ed.map t8++.sp (.lI ds)::er.map t8:=by rw[l,AC,xL,m]
 have o:(ed.map t8).length=ed.length:=im _;refine o▸?_;induction f:k9 d with
 |some b=>exact⟨b,R,WJ j (c▸h.h) (h.hx R) rfl (c▸(pW d).trans f) (h.u3 ds<|c▸br _ (.head _)) h.tl,.refl,by delta Res;exact f▸rfl⟩
 |none=>
  obtain⟨t,S,e,g,k⟩:=WK (N:=2) (L:=L) (ro:=ro) (ed:=ed.map t8) (er:=er.map t8) (ds:=ds) (zo (by decide)) (by decide)<|c▸h.sp j f n
  exact⟨t,S,e,g,by delta Res;refine f▸c▸?_;exact k⟩
theorem JD(l:Tb S)(i:WD c vw)(h:F7 R L d ts)(k:Res S d ro t)(j:S.length+400<az):∃T,ai 72 [wm c vw,ak 14,ae (ro:Nat)] (G S L) (ae t) [some<|wm c vw,none,none] (G T L)/\dU S 298 T:=by
 delta Res at k;induction a:k9 d with
 |some b=>rw[a]at k;exact⟨S,(show t=b from k)▸Bt (n:=14) h.hm h.ok a,.refl⟩
 |none=>replace k:=a▸k;obtain⟨m,T,e,g,f⟩:=Ff (n:=14) (L:=L) (ro:=ro) l i h.hm h.ok h.hl a j;exact⟨T,A2 h.ok a k g f▸e,g⟩
theorem eq_self(g)(t:Nat):aS g .Eq (ae t) (ae t)=some true:=ao<|decide_eq_true rfl
theorem Qu(c:Tb R)(b:WF kw vw t m)(h:F7 R L es ts)(n:R.length+1010<az)(y:what=4\/what=5):jM 80 [wm kw vw,ae what,ae how] [some<|wm kw vw,none,none] R L 1000:=by
 refine fN (Tw (kw:=kw) (vw:=vw) (what:=what) (how:=how) (g:=G R L) h.hm h.ok<|am h.hl (by decide)) λo d=>?_
 have lo:=rB (g:=G R L) how 2 rfl;have a:∀{S:List PV},dU R 607 S->S.length+400<az:=λg=>ac (lf g.len 400) (by rw[wn];exact ac (db (by decide) _) n)
 have u:=b.handed (G R L)<|some 0
 have s:=b.oj (G R L)<|some 0
 have p:=b.host (G R L)<|some 0
 rcases y with rfl|rfl
 .obtain⟨r,S,e,g,k⟩:=Qv (ro:=how % 2) c h n;refine aO (JD (g.tb c) b.toWD h k<|a g) λT l j=>?_
  exact⟨T,kf 20 [op u,op s,od,od,od,od,os d,od,op p,od,ov lo,oc e,ov<|rB (g:=G S L) how 2 rfl,oc l,ob<|eq_self (G T L) r],(g.trans j).up (by decide)⟩
 .rcases IB (es:=es) (i:=0) (f:= -1)with q|⟨A,x,C,w,v,q⟩
  .replace d:=q▸d;obtain⟨r,S,e,g,k⟩:=Qv (ro:=how % 2) c h n;refine aO (JD (g.tb c) b.toWD h k<|a g) λT l j=>?_
   exact⟨T,kf 20 [op u,op s,od,od,od,od,os d,od,od,op p,od,ov lo,oc e,ov<|rB (g:=G S L) how 2 rfl,oc l,ob<|eq_self (G T L) r],(g.trans j).up (by decide)⟩
  .rw[q,ss]at d;have z:aS (G R L) .GtE (ae (A.length:Nat)) (ae 0)=some true:=congrArg some<|decide_eq_true<|Do _
   obtain⟨r,S,e,g,k⟩:=XG (ro:=how % 2) c h n w v;refine aO (JD (g.tb c) b.toWD h k<|a g) λT l j=>?_
   exact⟨T,kf 20 [op u,op s,od,od,od,od,os d,od,ob z,op p,od,ov lo,oc e,ov<|rB (g:=G S L) how 2 rfl,oc l,ob<|eq_self (G T L) r],(g.trans j).up (by decide)⟩
end
theorem rm{l:List b}{m}(h:bc P l m):bc P l.reverse m.reverse:=by
 induction h with
 |nil=>exact .nil
 |cons h _ a=>rw[bt,bt];exact kx a<|.cons h .nil
theorem F3{l:List d}{m}(h:bc P l m):∀w,bc P (lA w l) (lA w m)
 |0=>by
  induction h with
  |nil=>exact .nil
  |cons h t=>exact kx t<|.cons h .nil
 |1=>by
  have e:∀{c:Type}(l:List c),l.dropLast=l.reverse.tail.reverse:=λl=>by rw[List.tail_reverse,Cf]
  show bc P l.dropLast m.dropLast;rw[e,e];have r:=rm h;generalize l.reverse=a at r⊢;generalize m.reverse=b at r⊢;induction r with
  |nil=>exact .nil
  |cons _ t=>exact rm t
 |_+2=>rm h
theorem GX:∀(w)(l:List a),(lA w l).length<=l.length
 |0,[]=>v6 _
 |0,_::l=>by show(l++[_]).length<=_;exact ch▸v6 _
 |1,l=>by exact List.length_dropLast▸lL _ _
 |_+2,l=>EQ oJ
noncomputable def eR(f:Nat->List PV)(j:Nat)(x:List PV):Nat->List PV:=λi=>bif co i j then x else f i
section
variable{g:List GO} {kw vw:List PV} {how j:Nat} {h c:Nat->List PV}
theorem V9:j<4->(LW a h c)[j]?=some (.list<|a j):=KS (P:=λi=>(LW a h c)[i]?=some (.list<|a i)) rfl rfl rfl rfl
theorem Sg:j<4->(LW ms h c)[j+4]?=some (.list<|h j):=KS (P:=λi=>(LW ms h c)[i+4]?=some (.list<|h i)) rfl rfl rfl rfl
theorem Zz:j<4->(LW a h c).set j (.list x)=LW (eR a j x) h c:=KS (P:=λi=>(LW a h c).set i (.list x)=LW (eR a i x) h c) rfl rfl rfl rfl
theorem ZA:j<4->(LW a h c).set (j+4) (.list x)=LW a (eR h j x) c:=KS (P:=λi=>(LW a h c).set (i+4) (.list x)=LW a (eR h i x) c) rfl rfl rfl rfl
noncomputable def K1(c:Nat->List PV):List PV:=[.lst<|c 0,.lst<|c 1,.lst<|c 2,.lst<|c 3]
theorem ZB:j<4->(LW a h c).set 8 (.list<|(K1 c).set j<|.lst x)=LW a h (eR c j x):=KS (P:=λi=>(LW a h c).set 8 (.list<|(K1 c).set i<|.lst x)=LW a h (eR c i x)) rfl rfl rfl rfl
theorem Z':j<4->idx (K1 c) (j:Int)=some j:=KS (P:=λi=>idx (K1 c) (i:Int)=some i) rfl rfl rfl rfl
theorem RT(i:Nat):hK g .FloorDiv (ae i) (ae ((4:Nat):Int))=some (ae ((i/4:Nat):Int)):=by
 have e:binI .FloorDiv (i:Int) ((4:Nat):Int)=some ((i/4:Nat):Int):=by delta binI;dsimp only;rw[if_pos ⟨by decide,by decide⟩,<-wt]
 exact(mI e rfl:(binI .FloorDiv (i:Int) ((4:Nat):Int)).map (λk=>RV.v<|.int k)=_)
theorem A6(h:g[n]?=some (.list l)):ya g (ak n) none none=some (.ml none l):=by
 refine bI (wJ h)<|bI (x:=0) rfl<|mI (x:=l.length) rfl ?_
 refine lx▸?_;rfl
theorem SW{c y r}(h:Ok (λf=>f.e e s) (r,s))(u:Ok (λf=>gS f o s) (p,s))(t:Ok (λf=>f.e i s) (.v k,s))(n:p.aD s=some c)(m:sW s.g c k r.eJ=some y)(l:p.store s y=some d):Ok (λf=>cH f (.asg (.sub o i) e) s) (.dK,d):=(h.two u (H:=λf=>(f.e e s).bind λx=>(gS f o s).map λy=>(x,y)) λf a b=>bI a<|mI b rfl).two t λf a b=>bE a λC z a=>mE a λA w q=>by obtain⟨rfl,rfl⟩:=pJ q;exact bI z<|mI (bI w<|bI b<|bI n<|bI m l) rfl
theorem Z6(b:nv e=true)(h:Ok (λf=>f.e e s) (r,a)):Ok (λf=>gS f e s) (.rv r,a):=h.one λf q=>by rw[gS,tA b];exact mI q rfl
def d7S(kw vw:List PV)(g:List GO)(how:Nat):St:=⟨[some<|wm kw vw,ni 7,ni how,some<|.v<|.lst pO,some<|.v<|.lst uU,none,none,none,none,none,none,none,none,none,none,none,none],g⟩
theorem aak(q:WF kw vw t m)(A:how<12)(i:(ms<|how % 4).length<az)(o:(h<|how % 4).length<az):ai 80 [wm kw vw,ae (7:Nat),ae how] (G R<|LW ms h h) (dj true) [some<|wm kw vw,none,none] (G R<|LW (eR ms (how % 4)<|lA (how/4)<|ms<|how % 4) (eR h (how % 4)<|lA (how/4)<|h<|how % 4)<|eR h (how % 4)<|lA (how/4)<|h<|how % 4):=by
 have e:how/4<3:=Nat.div_lt_of_lt_mul A;have lo:∀g,hK g .Mod (ae how) (ae ((4:Nat):Int))=some (ae ((how % 4:Nat):Int)):=λg=>rB how 4 rfl;have b:how % 4<4:=fF _<|wv _
 revert i o b lo e;have a:∀g,hK g .FloorDiv (ae how) (ae ((4:Nat):Int))=some (ae ((how/4:Nat):Int)):=λg=>RT how;revert a;generalize how/4=d;generalize how % 4=j;intro a i o e lo b;generalize z:lA d (h j)=x;generalize w:lA d (ms j)=y;have u:=zm (g:=G R<|LW ms h h) (n:=j+16) (show(G R<|LW ms h h)[j+16]?=some (.list<|h j) from Sg (ms:=ms) (c:=h) b) o e
 rw[z,show(G R<|LW ms h h).set (j+16) (.list x)=G R (LW ms (eR h j x) h) from congrArg (G R)<|ZA b]at u
 have s:=zm (g:=G R<|LW ms (eR h j x) h) (n:=j+12) (show(G R<|LW ms (eR h j x) h)[j+12]?=some (.list<|ms j) from V9 (h:=eR h j x) (c:=h) b) i e
 rw[w,show(G R<|LW ms (eR h j x) h).set (j+12) (.list y)=G R (LW (eR ms j y) (eR h j x) h) from congrArg (G R)<|Zz b]at s
 have C:(G R<|LW (eR ms j y) (eR h j x) h)[j+16]?=some (.list x):=(show _=some (GO.list<|eR h j x j) from Sg (ms:=eR ms j y) (c:=h) b).trans (by delta eR;rw[gZ];rfl)
 have D:Ok (λf=>cH f (.asg (.sub (.sub (.v 0)<|.c<|.str sf)<|.bin .Mod (.v 2) jA)<|.sl (.sub (.v 3)<|.bin .Mod (.v 2) jA) none none)<|d7S kw vw (G R<|LW (eR ms j y) (eR h j x) h) how) (.dK,d7S kw vw (G R<|LW (eR ms j y) (eR h j x)<|eR h j x) how):=SW (p:=.rv<|ak 20) (k:=.int (j:Int)) (c:=ak 20) (r:=.ml none x) (y:=.ml none<|(K1 h).set j<|.lst x) (ke 9 [ov<|lo [],op<|CG (g:=G R<|LW (eR ms j y) (eR h j x) h) b,ov<|A6 C]) (Z6 rfl<|ke 9 [op<|q.BV (G R<|LW (eR ms j y) (eR h j x) h)<|some 0]) (ke 5 [ov<|lo []]) rfl (EE (l:=K1 h) rfl (eQ.mpr<|Do j)<|Z' b) (show some (d7S kw vw (G R<|(LW (eR ms j y) (eR h j x) h).set 8<|.list<|(K1 h).set j<|.lst x) how)=_ by rw[ZB b])
 exact kf 20 [op<|q.handed (G R<|LW ms h h)<|some 0,op<|q.oj (G R<|LW ms h h)<|some 0,od,od,od,ov<|lo [],op<|CG (g:=G R<|LW ms h h) b,ov<|a [],oc u,ov<|lo [],op<|Hc (g:=G R<|LW ms (eR h j x) h) b,ov<|a [],oc s,os D]
end
theorem D1(n)(l):k5 (dat g<|n+1) (iv l)=some (l.map λ(q:Nat)=>.int (q:Int)):=by
 have:=vQ g n<|l.map λ(q:Nat)=>(q:Int)
 rw[bD,bD]at this;exact this
theorem Iv(l:List Nat):ca (l.map λ(q:Nat)=>.int (q:Int))=true:=by
 induction l with
 |nil=>rw[jq,ca]
 |cons q l a=>rw[xL,ca,fe,a];rfl
theorem BO(e:BR g a=some d)(c:BR g b=some d)(h:d.canLay0=true):Xz g a b=some true:=bI e<|(mI c rfl).trans<|congrArg some<|uO d h
theorem Xy(l)(t a):aS g .Eq (.ml t<|iv l) (.ml a<|iv l)=some true:=BO (d:=.list<|l.map λ(q:Nat)=>.int (q:Int)) (mI (D1 8 l) rfl) (mI (D1 8 l) rfl) (by rw[fe];exact Iv l)
theorem CZ{g c:Type}{p f}{d:c}{m}:∀{l pre:List g},m=pre++l->((IN pre.length l.length).filter λk=>m[k]?.any p).map (λk=>(m[k]?.map f).getD d)=(l.filter p).map f
 |[],_,_=>rfl
 |s::l,pre,e=>by
  have a:=CZ (m:=m) (l:=l) (pre:=pre++[s]) (p:=p) (f:=f) (d:=d) (by rw[e,sK];rfl)
  rw[ch]at a;have b:m[pre.length]?=some s:=by rw[e,Fk<|v6 _,gX];rfl
  show((pre.length::IN (pre.length+1) l.length).filter _).map _=_;rw[aX,aX,b];show(if p s=true then _ else _:List Nat).map _=_
  induction p s with
  |true=>show((m[pre.length]?.map f).getD d)::_=_;rw[b];exact congrArg (_::·) a
  |false=>exact a
theorem L8{b a:Type}{p f}{d:a}(m:List b):((Db m.length).filter λk=>m[k]?.any p).map (λk=>(m[k]?.map f).getD d)=(m.filter p).map f:=WP▸CZ (pre:=[]) rfl
abbrev DJ(a:Gp):PV:=.tup<|a.2.map λc=>.int<|cI c
theorem Sl(g):((3::HU.map Pv).map λc=>aS g .In (ae<|cI c)<|dQ [.int 1,.int 8,.int 64,.int 256])=(3::HU.map Pv).map λc=>some<|w9 c:=by kernel_rfl
section
variable{g:List GO} {kw vw:List PV} {how:Nat}
def yc(kw vw:List PV)(g:List GO)(how:Nat)(i h f e d c b a:Option RV):St:=⟨[some<|wm kw vw,ni 6,ni how,some<|.v<|.lst pO,some<|.v<|.lst uU,i,h,f,e,none,none,none,none,d,c,b,a],g⟩
theorem aao(b)(d:Bf a.2=true)(j:a.2.length<az):Ok (λf=>f.e (.bi .any<|.comp (.cmp .In (.v 14)<|.tup [bJ,yd,(.c<|.int 64),(.c<|.int 256)]) [(.v 14,.v 13,[])])<|yc kw vw g how b none none none (some<|.v<|DJ a) none none none) (dj<|hG a,yc kw vw g how b none none none (some<|.v<|DJ a) none none none):=by
 refine fN (pF (v:=λc=>.int (cI c)) (F:=λc=>dj (w9 c)) (p:=λ_=>true) (after:=λo=>yc kw vw g how b none none none (some (.v (DJ a))) (o.map λc=>ae (cI c)) none none) (own:=[14]) (elt:=.cmp .In (.v 14) (.tup [bJ,yd,(.c (.int 64)),(.c (.int 256))])) (t:=.v 14) (cs:=[]) (λ_ _=>rfl) (l:=a.2) (out:=[]) (o:=none) (by rw[tz,ss];exact j) (λ_ _=>d9) (λc m _=>by
  have k:c∈3::HU.map Pv:=by
   rcases FM.mp (bv.mp d c m)with e|e
   .obtain⟨a,n,e⟩:=P3.mp e;exact .tail _<|to.mpr ⟨a,n,ii e⟩
   .rw[ii e];exact .head _
  exact ke 9 [ob (ww.mp (Sl g) c k)])) λo e=>?_
 rw[cn.mpr λ_ _=>rfl,GM]at e;refine pH (y:=dj<|hG a) rfl (eH (t:=.v 14) (i:=13) (s:=yc kw vw g how b none none none (some<|.v<|DJ a) none none none) (y:=DJ a) (src:=.l<|a.2.map λc=>.int<|cI c) rfl rfl e) ?_
 have q:∀l:List Nat,boolsOf (l.map λc=>(RV.v<|.bool<|w9 c).eJ)=some (l.map w9):=λl=>by
  induction l with
  |nil=>rfl
  |cons c l h=>exact bI rfl<|mI h rfl
 refine mI (bI (f:=boolsOf) rfl<|q a.2) ?_
 rw[Un];rfl
end
section
variable{how:Nat} {sg:List Gp}
abbrev lits(sg:List Gp):List PV:=sg.map λa=>.bool<|hG a
theorem JY(d:g[15]?=some (.list<|sg.map DJ))(b:∀a∈sg,Bf a.2=true/\a.2.length<az)(h:sg.length<az):Ok (λf=>f.e (.comp (.bi .any<|.comp (.cmp .In (.v 14)<|.tup [bJ,yd,(.c<|.int 64),(.c<|.int 256)]) [(.v 14,.v 13,[])]) [(.v 13,.sub (.v 4) gV,[])])<|yc kw vw g how a5 none none none none none none none) (.ml none<|lits sg,yc kw vw g how a5 none none none none none none none):=by
 obtain⟨o,e⟩:=IW (l0:=sg.map DJ) (v:=DJ) (F:=λa=>dj<|hG a) (p:=λ_=>true) (after:=λo=>yc kw vw g how a5 none none none (o.map λa=>.v<|DJ a) none none none) (own:=[13]) (elt:=.bi .any<|.comp (.cmp .In (.v 14)<|.tup [bJ,yd,(.c<|.int 64),(.c<|.int 256)]) [(.v 14,.v 13,[])]) (t:=.v 13) (cs:=[]) (λ_=>d) (λ_ _=>rfl) (l:=sg) (out:=[]) (o:=none) (i:=0) (k:=(sg.map DJ).length+1) rfl (by rw[im];exact Ix _) (by rw[tz,ss];exact h) (λ_ _=>d9) (λa m _=>aao a5 (b a m).1 (b a m).2)
 rw[cn.mpr λ_ _=>rfl,GM]at e;exact fR (t:=.v 13) (it:=.sub (.v 4) gV) (x:=ak 15) (s:=yc kw vw g how a5 none none none none none none none) (s1:=yc kw vw g how a5 none none none none none none none) rfl (ke 5 [od]) (sd d) e
theorem Eb{after:Option Nat->St}(k:∀a o,bY (.v j) (.int ((a:Nat):Int)) (after o)=some (after<|some a))(c:sg.length<=10)(g:∀i a,sg[i]?=some a->Ok (λf=>iQ f [e]<|after<|some i) (p a,after<|some i)) (d:∀i a,sg[i]?=some a->Ok (λf=>f.e elt<|after<|some i) (.v<|ib a,after<|some i)):∃o,Ok (λf=>bb (compTurn f [j] elt (.v j) [e]) (iv<|Db sg.length) ([],after none)) (none,((sg.filter p).map ib,after o)):=by
 have b:∀i∈Db sg.length,∃a,sg[i]?=some a:=λi m=>⟨_,At<|bS.mp m⟩
 refine fN (pF (v:=λ(i:Nat)=>.int (i:Int)) (F:=λi=>.v ((sg[i]?.map ib).getD .none)) (p:=λi=>sg[i]?.any p) (after:=after) (own:=[j]) (elt:=elt) (t:=.v j) (cs:=[e]) k (l:=Db sg.length) (out:=[]) (o:=none) (by rw[ba,tz,ss];exact ac c (by decide)) (λi m=>by
  obtain⟨a,q⟩:=b i m;exact q▸g i a q) (λi m _=>by
  obtain⟨a,q⟩:=b i m;refine q▸?_;exact d i a q)) λo h=>?_
 rw[GM]at h;have r:((Db sg.length).filter λi=>sg[i]?.any p).map (λa=>(RV.v<|(sg[a]?.map ib).getD .none).eJ)=(sg.filter p).map ib:=L8 (p:=p) (f:=ib) sg
 rw[r]at h;exact⟨o,h⟩
theorem yx{i:Nat}(h:sg[i]?=some a):gy g (.ml none<|lits sg) (.int (i:Int))=some (.bool<|hG a):=by
 have b:(lits sg)[i]?=some (.bool<|hG a):=H1.trans<|congrArg _ h
 exact bI (fU b) b
theorem TJ(c:g[19]?=some (.list<|sg.map ib))(b:sg.length<=10):Ok (λf=>f.e (.comp (.sub (.sub (.v 3) gV)<|.v 15) [(.v 15,.v 7,[.sub (.v 6)<|.v 15])])<|yc kw vw g how a5 (some<|.ml none<|lits sg) (some<|.v<|.iH (sg.length:Nat)) none none none none none) (.ml none<|(sg.filter hG).map ib,yc kw vw g how a5 (some<|.ml none<|lits sg) (some<|.v<|.iH (sg.length:Nat)) none none none none none):=by
 obtain⟨o,h⟩:=Eb (sg:=sg) (p:=hG) (e:=.sub (.v 6)<|.v 15) (elt:=.sub (.sub (.v 3) gV)<|.v 15) (j:=15) (after:=λo=>yc kw vw g how a5 (some<|.ml none<|lits sg) (some<|.v<|.iH (sg.length:Nat)) none none none (on o) none) (λ_ _=>rfl) b (λi a q=>jk<|kb 9 [op<|yx (g:=g) q,od]) (λi a q=>ke 9 [od,op<|oW c<|H1.trans<|congrArg _ q])
 exact eH (t:=.v 15) (i:=7) (s:=yc kw vw g how a5 (some<|.ml none<|lits sg) (some<|.v<|.iH (sg.length:Nat)) none none none none none) (y:=.iH (sg.length:Nat)) rfl (dt (g:=g) (n:=sg.length)) h
theorem XR(c:g[19]?=some (.list<|sg.map ib))(b:sg.length<=10):Ok (λf=>f.e (.comp (.sub (.sub (.v 3) gV)<|.v 16) [(.v 16,.v 7,[.not<|.sub (.v 6)<|.v 16])])<|yc kw vw g how a5 (some<|.ml none<|lits sg) (some<|.v<|.iH (sg.length:Nat)) a8 none none none none) (.ml none<|(sg.filter λa=>!hG a).map ib,yc kw vw g how a5 (some<|.ml none<|lits sg) (some<|.v<|.iH (sg.length:Nat)) a8 none none none none):=by
 obtain⟨o,h⟩:=Eb (sg:=sg) (p:=λa=>!hG a) (e:=.not<|.sub (.v 6)<|.v 16) (elt:=.sub (.sub (.v 3) gV)<|.v 16) (j:=16) (after:=λo=>yc kw vw g how a5 (some<|.ml none<|lits sg) (some<|.v<|.iH (sg.length:Nat)) a8 none none none<|on o) (λ_ _=>rfl) b (λi a q=>jk<|kb 9 [op<|yx (g:=g) q,od]) (λi a q=>ke 9 [od,op<|oW c<|H1.trans<|congrArg _ q])
 exact eH (t:=.v 16) (i:=7) (s:=yc kw vw g how a5 (some<|.ml none<|lits sg) (some<|.v<|.iH (sg.length:Nat)) a8 none none none none) (y:=.iH (sg.length:Nat)) rfl (dt (g:=g) (n:=sg.length)) h
theorem Sd(h:s.get i=some (.ml none l))(c:l.length+k.length<=az)(b:s.put i (some<|.ml none<|l++k)=a):uJ s .extend (.pl i) [.lst k]=some (.v .none,a):=by refine bI h ?_;exact(if_pos c).trans<|mI (x:=a) (bI h<|congrArg some b) rfl
theorem aal(w:Tb R)(e:WF kw vw t m)(h:∀a∈sg,pY R a.1 a.2)(u:∀a∈sg,a.2.length<az)(y:L[3]?=some (.list<|sg.map DJ))(f:L[7]?=some (.list<|sg.map ib))(b:sg.length<=10):ai 80 [wm kw vw,ae (6:Nat),ae how] (G R L) (dj true) [some<|wm kw vw,none,none] (G R L):=by
 have r:sg.length<az:=ac b (by decide)
 have A:=IU (L:=L) (n:=19) w h f b;have E:=JY (kw:=kw) (vw:=vw) (how:=how) (g:=G R L) (a5:=some<|.ml none<|(lZ sg).map ib) y (λa m=>⟨(h a m).1,u a m⟩) r
 have D:=TJ (kw:=kw) (vw:=vw) (how:=how) (g:=G R L) (a5:=some<|.ml none<|(lZ sg).map ib) f b
 have C:=XR (kw:=kw) (vw:=vw) (how:=how) (g:=G R L) (a5:=some<|.ml none<|(lZ sg).map ib) (a8:=some<|.ml none<|(sg.filter hG).map ib) f b
 have o:uK (G R L) .len (.ml none<|lits sg)=some (ae (sg.length:Nat)):=congrArg (λn:Nat=>some<|RV.v<|.int n)<|im _
 have c:∀p:Gp->Bool,((sg.filter p).map ib).length<=10:=λp=>by rw[im];exact am (aT _ _) b
 have j:=Sd (s:=yc kw vw (G R L) how (some<|.ml none<|(lZ sg).map ib) (some<|.ml none<|lits sg) (some<|.v<|.iH (sg.length:Nat)) (some<|.ml none<|(sg.filter hG).map ib) none none none none) (i:=8) (l:=(sg.filter hG).map ib) (k:=(sg.filter λa=>!hG a).map ib) rfl (am (TE (c _)<|c _) (by decide)) rfl
 rw[show(sg.filter hG).map ib++(sg.filter λa=>!hG a).map ib=(lZ sg).map ib from(AC).symm]at j;have d:(lZ sg).map ib=iv ((lZ sg).map Pv):=by delta iv;rw[bD];rfl
 have z:aS (G R L) .Eq (.ml none<|(lZ sg).map ib) (.ml none<|(lZ sg).map ib)=some true:=d▸Xy _ _ _
 have q:((lZ sg).map ib).length<az:=by delta lZ;exact AC▸ch▸ac (TE (c _)<|c _) (by decide)
 exact kf 20 [op<|e.handed (G R L)<|some 0,op<|e.oj (G R L)<|some 0,od,od,op<|e.tab (G R L)<|some 0,od,oc A,ox E,ov o,ov<|fH (g:=G R L) b,ox D,ox C,om j,ob z,om<|eU (s:=⟨[some<|wm kw vw,ni 6,ni how,some<|.v<|.lst pO,some<|.v<|.lst uU,some<|.ml none<|(lZ sg).map ib,some<|.ml none<|lits sg,some<|.v<|.iH (sg.length:Nat),some<|.ml none<|(lZ sg).map ib,some<|dj true,none,none,none,none,none,none,none],G R L⟩) (i:=5) (x:=.int (-1)) (out:=(lZ sg).map ib) rfl q rfl]
end
structure PJ(R:List PV)(j:Nat)(u v:PV):Prop where
 e:j=2->∃(t:Nat×Nat)(e:GE),u=eN t/\v=iJ e/\EK R t (t8 e)/\gJ e
 s:j=3->∃(q:Nat)(p:List Nat),u=.int (q:Int)/\v=DJ (q,p)/\pY R q p/\p.length<az
 k:j≠2->j≠3->∃q k:Nat,u=.int (q:Int)/\v=.int (k:Int)/\KM R k q/\k∈TK
theorem Eh{f:i->t}{g:e->s}(h:bc (λu v=>∃a b,u=f a/\v=g b/\P a b) l m):∃(d:List i)(c:List e),l=d.map f/\m=c.map g/\bc P d c:=by
 induction h with
 |nil=>exact⟨[],[],rfl,rfl,.nil⟩
 |cons h _ k=>refine ju h λa b r q p=>?_;refine ju k λd c o n j=>?_;exact⟨a::d,b::c,congr (congrArg _ r) o,congr (congrArg _ q) n,.cons p j⟩
structure WI(R:List PV)(ms h:Nat->List PV):Prop where
 it:∀j,j<4->bc (PJ R j) (h j) (ms j)
 le:∀j,j<4->(h j).length<=bif co j 3 then 4 else 3
section
variable{R S:List PV} {kw vw:List PV} {what how:Nat} {ms h:Nat->List PV}
theorem pY.up (h:pY R q p) (g:dU R c S):pY S q p:=by obtain⟨a,u,z,C⟩:=h;exact⟨a,u,cZ z λ_ _ h=>bz.up h g,HB g C⟩
theorem PJ.up (g:dU R c S) (h:PJ R j u v):PJ S j u v:=⟨λj=>AG (h.e j) λt e a b k o=>⟨t,e,a,b,k.up g,o⟩,λj=>AG (h.s j) λq p a b k o=>⟨q,p,a,b,k.up g,o⟩,λi j=>AG (h.k i j) λq k a b h o=>⟨q,k,a,b,g.km h,o⟩⟩
theorem WI.up (i:WI R ms h) (g:dU R c S):WI S ms h:=⟨λj l=>cZ (i.it j l) λ_ _ p=>p.up g,i.le⟩
theorem Ac{l:List c}{m}(h:bc (λa b=>P a b/\Q a b) l m):bc P l m/\bc Q l m:=⟨cZ h λ_ _ h=>h.1,cZ h λ_ _ h=>h.2⟩
theorem WI.kat (i:WI R ms h) (L) (I:L=LW ms h h) (C:one<2):∃z ks,QG R L one z ks:=by
 subst I;have u:one<4:=Ev C (ut ..);have D:one≠3:=bF<|Ev C<|v6 _
 refine ju (Eh (f:=λq:Nat=>PV.int (q:Int)) (g:=λq:Nat=>PV.int (q:Int)) (P:=λq k=>KM R k q/\k∈TK)<|cZ (i.it one u) λ_ _ p=>p.k (bF C) D) λz ks F J p=>?_
 have E:=i.le one u;rw[F,im,(Uf.mpr λq=>D (ii q):co one 3=false)]at E;exact⟨z,ks,(Sg (ms:=ms) (c:=h) u).trans<|congrArg (λl=>some<|GO.list l) F,(V9 (h:=h) (c:=h) u).trans<|congrArg (λl=>some<|GO.list l) J,(Ac p).1,λk H=>(rj p k H).elim λ_ a=>a.2.2,E⟩
theorem WI.ein (i:WI R ms h):∃q ts,F7 R (LW ms h h) q ts:=by
 refine ju (Eh (f:=eN) (g:=iJ) (P:=λt e=>EK R t (t8 e)/\gJ e)<|cZ (i.it 2 (by decide)) λ_ _ p=>p.e rfl) λts q z C p=>?_
 have u:=i.le 2 (by decide)
 refine⟨q,ts,?_,?_,wb (Ac p).1,λe m=>(rj p e m).elim λ_ a=>a.2.2,?_⟩
 .exact C▸rfl
 .exact(show some (GO.list<|h 2)=_ by rw[z];rfl)
 .rw[z,im,fb p]at u;exact u
theorem Ke{l:List d}{m:List c}(h:bc P l m):∃z:List (d×c),z.map Pv=l/\z.map py=m/\∀p∈z,P p.1 p.2:=by
 induction h with
 |nil=>exact⟨[],rfl,rfl,λ_ h=>nomatch h⟩
 | @cons a b _ _ h _ f=>refine eV f λz i g k=>?_;exact⟨(a,b)::z,congrArg _ i,by refine g▸?_;rfl,λp m=>(rc.mp m).elim (λe=>e▸h)<|k p⟩
theorem WI.sgs (i:WI R ms h):∃u:List Gp,ms 3=u.map DJ/\h 3=u.map ib/\(∀a∈u,pY R a.1 a.2/\a.2.length<az)/\u.length<=10:=by
 refine sA λC H=>?_;refine eV (Ke<|i.it 3 (by decide)) λz D E k=>?_
 have F:=i.le 3 (by decide)
 rw[<-D,im]at F;have J:∀z:List (PV×PV),(∀p∈z,PJ R 3 p.1 p.2)->∃u:List Gp,z.map py=u.map DJ/\z.map Pv=u.map ib/\(∀a∈u,pY R a.1 a.2/\a.2.length<az)/\u.length=z.length:=λz=>by
  induction z with
  |nil=>exact λ_=>⟨[],rfl,rfl,λ_ h=>(nomatch h),rfl⟩
  |cons p z I=>
   intro k;refine Lh (I λp m=>k p<|.tail _ m) λu a b c d=>?_
   refine ju ((k p<|.head _).s rfl) λq r D E s=>?_
   exact⟨(q,r)::u,by rw[xL,E,a];rfl,by rw[xL,D,b];rfl,λx m=>(rc.mp m).elim (λe=>e▸s)<|c x,congrArg dO d⟩
 refine Lh (J z k) λu a b c d=>?_;refine H ?_;exact⟨u,E▸a,D▸b,c,d▸am F (by decide)⟩
inductive Ei(R:List PV)(ms h:Nat->List PV)(kw vw:List PV)(what how:Nat):Prop
 |mk (S:List PV) (a b:Nat->List PV) (e:ai 80 [wm kw vw,ae what,ae how] (G R<|LW ms h h) (dj true) [some<|wm kw vw,none,none] (G S<|LW a b b)) (g:dU R 1000 S) (i:WI S a b):Ei R ms h kw vw what how
theorem jM.FI (i:WI R ms h) (r:jM 80 [wm kw vw,ae what,ae how] [some<|wm kw vw,none,none] R (LW ms h h) 1000):Ei R ms h kw vw what how:=by obtain⟨S,e,g⟩:=r;exact⟨S,ms,h,e,g,i.up g⟩
theorem Lz(i:WI R ms h)(j w)(b:j<4):WI R (eR ms j<|lA w<|ms j) (eR h j<|lA w<|h j):=by
 refine⟨λk a=>?_,λk a=>?_⟩
 .delta eR;induction q:co k j with
  |true=>rw[ii q];exact F3 (i.it j b) w
  |false=>exact i.it k a
 .delta eR;induction q:co k j with
  |true=>rw[ii q];exact am (GX w _)<|i.le j b
  |false=>exact i.le k a
theorem SS(f:Tb R)(c:WF kw vw t m)(v:KM R m t)(w:m∈MU)(i:WI R ms h)(s:R.length+1010<az)(C:what<8)(A:how<12):Ei R ms h kw vw what how:=by
 have p:=c.handed (G R<|LW ms h h)<|some 0
 have o:=c.oj (G R<|LW ms h h)<|some 0
 have d:R.length+60<az:=ac (db (by decide) _) s
 refine jF (i.kat (LW ms h h) rfl<|fF how (by decide:0<2)) λH ks q=>?_
 have n:∀j,j<4->(ms j).length<az/\(h j).length<az:=λj x=>by
  have a:=ac (am (i.le j x) (by induction co j 3<;>decide:(bif co j 3 then 4 else 3)<=4)) (by decide:4<az)
  exact⟨fb (i.it j x)▸a,a⟩
 refine lt8 (P:=λwhat=>Ei R ms h kw vw what how) ?_ ?_ ?_ ?_ (jF i.ein λE ts u=>jM.FI i<|Qu f c u s<|.inl rfl) (jF i.ein λE ts u=>jM.FI i<|Qu f c u s<|.inr rfl) (Lh i.sgs λF a b k l=>⟨R,ms,h,aal f c (λa m=>(k a m).1) (λa m=>(k a m).2) (congrArg (λl=>some<|GO.list l) a) (congrArg (λl=>some<|GO.list l) b) l,.refl,i⟩) (have r:=fF _<|wv _;⟨R,_,_,aak c A (n _ r).1 (n _ r).2,.refl,Lz i _ _ r⟩) C
 .obtain⟨S,e,g⟩:=Z2 f c q d;exact jM.FI i ⟨S,kf 20 [op p,op o,od,oc e],g.up (by decide)⟩
 .obtain⟨S,e,g⟩:=Z1 f c q d;exact jM.FI i ⟨S,kf 20 [op p,op o,od,oc e],g.up (by decide)⟩
 .obtain⟨S,e,g⟩:=Z0 f c v w q d;exact jM.FI i ⟨S,kf 20 [op p,op o,od,oc e],g.up (by decide)⟩
 .exact jF (i.kat (LW ms h h) rfl<|fF (how/2) (by decide:0<2)) λy z D=>by obtain⟨S,e,g⟩:=ZZ f c v w q D d;exact jM.FI i ⟨S,kf 20 [op p,op o,od,oc e],g.up (by decide)⟩
end
theorem yE(f)(b):∀(a){s c},ia f b s=some (.dK,c)->ia f (b++a) s=ia f a c:=by
 induction b with
 |nil=>intro _ _ _ h;cases bn h;rfl
 |cons x b d=>
  exact@λa s c h=>bE h λy e h=>by
   obtain⟨g,y⟩:=y;induction g with
   |dK=>exact bI e<|d a h
   |_=>exact nomatch congrArg Pv (bn h)
theorem IJ(h:Ok (λf=>f.iT g s) (.dK,d))(c:Ok (λf=>f.iT e d) y):Ok (λf=>f.iT (g++e) s) y:=by
 obtain⟨n,h⟩:=h;obtain⟨m,c⟩:=c;refine⟨n+m+1,λk=>?_⟩;have a:=h<|m+k+1
 have b:=c<|n+k+1
 rw[show n+(m+k+1)=n+m+k+1 by omega,xt]at a
 rw[show m+(n+k+1)=n+m+k+1 by omega,xt]at b
 rw[show n+m+1+k=n+m+k+1 by omega,xt]
 exact(yE _ _ _ a).trans b
theorem kcB(h:SL fi 100=true)(i:(decide (c.length<=(rR fi).np)&&decide ((rR fi).np<=c.length+(rR fi).kI.length))=true)(e:Ok (λf=>f.iT (rR fi).body ⟨c.map some++((rR fi).kI.drop<|(rR fi).kI.length+c.length -(rR fi).np).map (λx=>some<|.v x)++UF ((rR fi).ns -(rR fi).np) none,g⟩) (fl,st)) (d:pQ c st fl=some z):Ok (λf=>f.call fi c g) z:=(e.bind (G:=λ_(y:Fl×St)=>pQ c y.2 y.1) ⟨0,λ_=>d⟩).up λn=>(sq n fi (rR fi) c g<|Jq h).trans<|aE i λa b=>if_pos ⟨dT a,dT b⟩
noncomputable def slot(b:List (Nat×RV))(i:Nat):Option RV:=(b.find? λa=>co a.1 i).map py
def Ap(l:List Int)(w:RV)(a:List (Nat×RV))(g:List GO):St:=⟨some (qg l)::some (ak 0)::some w::ni 17::ni 18::[5,6,7,8,9,10,11,12,13,14,15,16,17,18,19,20,21,22,23].map (slot a),g⟩
def Fd:List PV:=[.str Rm,.str PD,.str PC,.str wN,.str CX,.str Hz]
def qv:List PV:=[.aZ 0,.aZ 10,.int 16,.lst<|iv zZ,.int 21,.int 22]
theorem QS(n)(l):(ev FT CT<|n+60).iT (KY.body.take 6) ⟨some l::UF 23 none,[]⟩=some (.dK,⟨some l::some (ak 0)::some (.md none Fd qv)::ni 17::ni 18::UF 19 none,G B []⟩):=by kernel_rfl
theorem U0(l):Ok (λf=>f.iT (KY.body.take 6) ⟨some (qg l)::UF 23 none,[]⟩) (.dK,Ap l (.md none Fd qv) []<|G B []):=Ok.of 60 λn=>dg (n+60)▸QS n (qg l)
section
variable{α:Type} {v:α->PV}
inductive DwE(T:List α)(v:α->PV)(n:Nat)(st:List Int->Option Nat->St)(a:List PV)(H:iU->Option (Option Unit×(List PV×St))):Prop
 |mk (b:List α) (l:List Int) (o:Option Nat) (e:Ok H (none,(a++b.map v,st l o))) (h:∀x∈b,x∈T) (c:b.length=n):DwE T v n st a H
theorem N9{T:List α}(w:T.length=N)(y:0<N)(u:∀l o(q:Nat),bY (.v j) (.int (q:Int)) (st l o)=some (st l<|some q))(t:∀l a(r q:Nat) x,ai 62 [qg l,ae (N:Nat)] g (ae (r:Nat)) [some<|qg a,none] g->(T.map v)[r]?=some (v x)->Ok (λf=>f.e c<|st l<|some q) (.v<|v x,st a<|some q)):∀{acc l o},acc.length+qs.length<az->DwE T v qs.length st acc λf=>bb (compTurn f [j] c (.v j) []) (iv qs) (acc,st l o):=by
 induction qs with
 |nil=>exact@λacc l o _=>⟨[],l,o,by rw[jq,u8];exact .pure,(λ_ h=>nomatch h),rfl⟩
 |cons q qs s=>
  intro acc l o i;obtain⟨r,d,b,C,_⟩:=jh (g:=g) y l;have b:=w▸b;have A:(T.map v)[r]?=some (v T[r]):=H1.trans<|congrArg _<|At b
  obtain⟨n,a,p,k,h,z⟩:=s (acc:=acc++[v T[r]]) (l:=d) (o:=some q) (by exact ch▸(jU i).2.2)
  rw[sK]at k;exact⟨T[r]::n,a,p,(fV (u l o q) d9 (jU i).1<|t l d r q _ C A).two k λ_=>dk,λx m=>(rc.mp m).elim (λe=>e▸r5 b)<|h x,congrArg dO z⟩
inductive Yb(T:List α)(v:α->PV)(M:Nat)(st:List Int->Option Nat->St)(x:Ex)(l:List Int):Prop
 |mk (a:List α) (b:List Int) (e:Ok (λf=>f.e x<|st l none) (.ml none<|a.map v,st b none)) (h:∀x∈a,x∈T) (c:a.length<M):Yb T v M st x l
theorem xB{T:List α}(C:T.length=N)(F:0<N)(E:0<M)(D:M<=10)(A:∀l o(q:Nat),bY (.v j) (.int (q:Int)) (st l o)=some (st l<|some q))(b:∀l o,clear [j] (st l o)=st l none)(y:∀l a(r:Nat),ai 62 [qg l,ae (M:Nat)] g (ae (r:Nat)) [some<|qg a,none] g->r<=10->Ok (λf=>f.e (.bi .range<|.call 62 [(.v 0),(.c<|.int M)])<|st l none) (.v<|.iH (r:Nat),st a none)) (z:∀l a(r q:Nat) x,ai 62 [qg l,ae (N:Nat)] g (ae (r:Nat)) [some<|qg a,none] g->(T.map v)[r]?=some (v x)->Ok (λf=>f.e elt<|st l<|some q) (.v<|v x,st a<|some q)) (l):Yb T v M st (.comp elt [(.v j,.bi .range<|.call 62 [(.v 0),(.c<|.int M)],[])]) l:=by
 obtain⟨r,d,p,I,_⟩:=jh (g:=g) E l;have i:=am (ck p) D;obtain⟨m,a,k,H,h,u⟩:=N9 C F A z (qs:=Db r) (acc:=[]) (l:=d) (o:=none) (by rw[ba,tz,ss];exact ac i (ut ..))
 rw[ba]at u;have w:=fR (t:=.v j) (s:=st l none) (s1:=st d none) (cs:=[]) (elt:=elt) (it:=.bi .range<|.call 62 [(.v 0),(.c<|.int M)]) (x:=.v<|.iH (r:Nat)) rfl (show Ok (λf=>f.e _<|clear [j] (st l none)) _ from(b l none).symm▸y l d r I i) (dt (n:=r))<|show Ok _ (none,([]++m.map v,st a k)) from(show clear (kH<|.v j) (st d none)=st d none from b d none).symm▸H
 rw[show clear (kH<|.v j) (st a k)=st a none from b a k]at w
 exact⟨m,a,w,h,u.symm▸p⟩
end
theorem qS(h:s.get i=some (.ml none l)):Ok (λf=>f.e (.prom<|.v i) s) (ak s.g.length,⟨s.r.set i<|some<|ak s.g.length,s.g++[.list l]⟩):=Ok.of 1 λn=>(oz ..).trans<|bI h<|mI (x:=l) rfl rfl
theorem xf{ks}(h:Ok (λf=>f.e e s) (r,s1))(j:s1.get i=some (.md none ks g))(n:(decide (ks.length<az)&&keyOk (.md none ks g) (.str k) ks)=true)(m:s1.put i (some<|.md none (upd ks g (.str k) r.eJ).1 (upd ks g (.str k) r.eJ).2)=l):Ok (λf=>cH f (.asg (.sub (.v i)<|.c<|.str k) e) s) (.dK,l):=h.two (Ok.of (F:=λf=>f.e (.c<|.str k) s1) 1 λ_=>N8) λf a b=>bI a<|mI (bI (mI j rfl)<|bI b<|bI j<|bI (qA (d:=(ks,g)) rfl rfl n)<|bI j<|congrArg some m) rfl
def Ww:List PV:=Fd++[.str wM]
def U7:List PV:=qv++[.lst uU]
def KU:List PV:=Ww++[.str tf]
def KG(t m:Nat):List PV:=U7++[.tup [.int (t:Int),.int (m:Int)]]
def Ss:List PV:=KU++[.str pd]
def QW(t m:Nat):List PV:=KG t m++[.lst pO]
def Wv:List PV:=Ss++[.str sf]
def U6(t m:Nat):List PV:=QW t m++[.aZ 20]
theorem wd7:WD Ww U7:=⟨λ_ _=>rfl,λ_ _=>rfl,λ_ _=>rfl,λ_ _=>rfl,λ_ _=>rfl⟩
theorem YD(t m):WD KU (KG t m):=⟨λ_ _=>rfl,λ_ _=>rfl,λ_ _=>rfl,λ_ _=>rfl,λ_ _=>rfl⟩
theorem YC(t m):WF Wv (U6 t m) t m:={tab:=λ_ _=>rfl,yT:=λ_ _=>rfl,atoms:=λ_ _=>rfl,member:=λ_ _=>rfl,Pu:=λ_ _=>rfl,host:=λ_ _=>rfl,handed:=λ_ _=>rfl,oj:=λ_ _=>rfl,CF:=λ_ _=>rfl,BV:=λ_ _=>rfl}
noncomputable def SB:List Nat:=[779,1803,1540,228,193,2048,1024,0,27,740]
theorem VH:(SB.all MU.contains)=true:=by decide+kernel
noncomputable def PR:List (List Nat):=[[4],[1],[],[512],[256],[8193],[4,8],[192],[3,4],[64,4]]
def mj(p:List Nat):PV:=.tup<|p.map λc=>.int<|cI c
def Pw(j:Nat):Ex:=.comp (.sub (.c<|.tup<|iv TK)<|.call 62 [(.v 0),JV]) [(.v j,.bi .range<|.call 62 [(.v 0),jA],[])]
def Xk:Ex:=.comp (.sub (.c<|.tup<|PR.map mj)<|.call 62 [(.v 0),zW]) [(.v 19,.bi .range<|.call 62 [(.v 0),sy],[])]
noncomputable def ZM(i:Nat)(o:Option Nat):List (Nat×RV):=o.toList.map λ(y:Nat)=>(i,ae y)
noncomputable def iV(q:Nat):PV:=.int (q:Int)
theorem aai(a)(l):Yb TK iV 4 (λl o=>Ap l w ((5,a)::ZM 17 o) g) (Pw 17) l:=xB (N:=19) (g:=g) rfl (by decide) (by decide) (by decide) (λ_ o _=>by induction o<;>rfl) (λ_ o=>by induction o<;>rfl) (λ_ _ _ e h=>ke 9 [oc e,ov<|fH (g:=g) h]) (λ_ _ _ _ _ e h=>ke 9 [oc e,op<|jH (g:=g) h]) l
theorem aah(b a)(l):Yb TK iV 4 (λl o=>Ap l w ((5,b)::(6,a)::ZM 18 o) g) (Pw 18) l:=xB (N:=19) (g:=g) rfl (wv _) (wv _) (ut ..) (λ_ o _=>by induction o<;>rfl) (λ_ o=>by induction o<;>rfl) (λ_ _ _ e h=>ke 9 [oc e,ov<|fH (g:=g) h]) (λ_ _ _ _ _ e h=>ke 9 [oc e,op<|jH (g:=g) h]) l
theorem aag(d c b a)(l):Yb PR mj 5 (λl o=>Ap l w ((5,d)::(6,c)::(7,b)::(8,a)::ZM 19 o) g) Xk l:=xB (N:=10) (g:=g) rfl (wv _) (wv _) (ut ..) (λ_ o _=>by induction o<;>rfl) (λ_ o=>by induction o<;>rfl) (λ_ _ _ e h=>ke 9 [oc e,ov<|fH (g:=g) h]) (λ_ _ _ _ _ e h=>ke 9 [oc e,op<|jH (g:=g) h]) l
inductive W1R(l:List Int):Prop
 |mk (d:List GE) (c b:List Nat) (a:List (List Nat)) (t m:Nat) (g:List Int) (S:List PV) (s:∀e∈d,gJ e) (i:d.length<=3) (v:∀k∈c,k∈TK) (n:c.length<4) (u:∀k∈b,k∈TK) (j:b.length<4) (q:∀p∈a,p∈PR) (h:a.length<5) (r:m∈MU) (o:KM S m t) (w:dU B 1 S) (e:Ok (λf=>f.iT ((KY.body.drop 6).take 7)<|Ap l (.md none Fd qv) []<|G B []) (.dK,Ap g (.md none KU<|KG t m) [(5,ak 14),(6,ak 12),(7,ak 13),(8,ae m),(9,ak 15)]<|G S [.list<|iv c,.list<|iv b,.list<|d.map iJ,.list<|a.map mj])):W1R l
theorem w_1(l):W1R l:=by
 obtain⟨a,H,N,C,Z⟩:=NA (g:=G B []) (l:=l);obtain⟨b,F,Y,P,y⟩:=aai (w:=.md none Fd qv) (g:=G B []) (.ml none<|a.map iJ) H
 obtain⟨d,E,X,O,x⟩:=aah (w:=.md none Fd qv) (g:=G B []) (.ml none<|a.map iJ) (.ml none<|iv b) F
 obtain⟨r,D,J,W,_⟩:=jh (g:=G B []) (m:=10) (wv _) E;refine aO (xn (l:=SB) J) λm j T=>?_;obtain⟨e,h,V,M,u⟩:=aag (w:=.md none Fd qv) (g:=G B []) (.ml none<|a.map iJ) (.ml none<|iv b) (.ml none<|iv d) (ae m) D
 have A:m<8192:=bh (bv.mp (by decide:(SB.all λm=>SL m 2049)=true) m j|>io) (by decide)
 obtain⟨t,S,U,Q,I⟩:=gE (R:=B) (L:=[.list<|iv b,.list<|iv d,.list<|a.map iJ,.list<|e.map mj]) wd7 (by decide) A
 refine⟨a,b,d,e,t,m,h,S,N,C,P,y,O,x,M,u,wf.mp<|bv.mp VH m j,I,Q,?_⟩
 have p:=qS (s:=Ap h (.md none Fd qv) [(5,.ml none<|a.map iJ),(6,.ml none<|iv b),(7,.ml none<|iv d),(8,ae m),(9,.ml none<|e.map mj)]<|G B []) (i:=6) (l:=iv b) rfl
 have o:=qS (s:=Ap h (.md none Fd qv) [(5,.ml none<|a.map iJ),(6,ak 12),(7,.ml none<|iv d),(8,ae m),(9,.ml none<|e.map mj)]<|G B [.list<|iv b]) (i:=7) (l:=iv d) rfl
 have q:=qS (s:=Ap h (.md none Fd qv) [(5,.ml none<|a.map iJ),(6,ak 12),(7,ak 13),(8,ae m),(9,.ml none<|e.map mj)]<|G B [.list<|iv b,.list<|iv d]) (i:=5) (l:=a.map iJ) rfl
 have n:=qS (s:=Ap h (.md none Fd qv) [(5,ak 14),(6,ak 12),(7,ak 13),(8,ae m),(9,.ml none<|e.map mj)]<|G B [.list<|iv b,.list<|iv d,.list<|a.map iJ]) (i:=9) (l:=e.map mj) rfl
 have z:Ok (λf=>cH f (.asg (.sub (.v 2)<|.c<|.str wM)<|.lst [(.prom<|.v 6),(.prom<|.v 7),(.prom<|.v 5),(.prom<|.v 9)])<|Ap h (.md none Fd qv) [(5,.ml none<|a.map iJ),(6,.ml none<|iv b),(7,.ml none<|iv d),(8,ae m),(9,.ml none<|e.map mj)]<|G B []) (.dK,Ap h (.md none Ww U7) [(5,ak 14),(6,ak 12),(7,ak 13),(8,ae m),(9,ak 15)]<|G B [.list<|iv b,.list<|iv d,.list<|a.map iJ,.list<|e.map mj]):=xf (r:=.ml none uU) (s1:=Ap h (.md none Fd qv) [(5,ak 14),(6,ak 12),(7,ak 13),(8,ae m),(9,ak 15)]<|G B [.list<|iv b,.list<|iv d,.list<|a.map iJ,.list<|e.map mj]) (ke 9 [ox p,ox o,ox q,ox n]) rfl (by decide+kernel) rfl
 have k:Ok (λf=>cH f (.asg (.sub (.v 2)<|.c<|.str tf)<|.tup [(.call 67 [(.v 2),(.v 8)]),(.v 8)])<|Ap h (.md none Ww U7) [(5,ak 14),(6,ak 12),(7,ak 13),(8,ae m),(9,ak 15)]<|G B [.list<|iv b,.list<|iv d,.list<|a.map iJ,.list<|e.map mj]) (.dK,Ap h (.md none KU<|KG t m) [(5,ak 14),(6,ak 12),(7,ak 13),(8,ae m),(9,ak 15)]<|G S [.list<|iv b,.list<|iv d,.list<|a.map iJ,.list<|e.map mj]):=xf (r:=dQ [.int (t:Int),.int (m:Int)]) (s1:=Ap h (.md none Ww U7) [(5,ak 14),(6,ak 12),(7,ak 13),(8,ae m),(9,ak 15)]<|G S [.list<|iv b,.list<|iv d,.list<|a.map iJ,.list<|e.map mj]) (ke 9 [oc U]) rfl (by decide+kernel) rfl
 exact kl 20 [oc Z,ox Y,ox X,oc W,op<|jH (g:=G B []) T,ox V,os z,os k]
structure W2 where
 l:List Int
 t:Nat
 m:Nat
 es:List GE
def W2.st (w:W2) (ts:List (Nat×Nat)) (o:Option GE) (F E D C z u q:Option RV) (g:List GO):St:=⟨[some<|qg w.l,some<|ak 0,some<|.md none KU<|KG w.t w.m,ni 17,ni 18,some<|ak 14,some<|ak 12,some<|ak 13,ni w.m,some<|ak 15,some<|.ml none<|ab ts,o.map λe=>.v<|zA e,o.map λe=>ae (Ar e:Nat),F,E,D,C,none,none,none,z,u,q,none],g⟩
abbrev W2.s1 (w:W2) (ts:List (Nat×Nat)) (o:Option GE) (g:List GO):St:=w.st ts o none none none none none none none g
abbrev W2.s2 (w:W2) (ts:List (Nat×Nat)) (o:Option GE) (z:List Nat) (u q:Option RV) (g:List GO):St:=w.st ts o (some<|.ml none<|iv z) u q none none none none g
inductive LaE(w:W2)(R:List PV)(L:List GO)(ts:List (Nat×Nat))(o:Option GE)(a:List GE):Prop
 |mk (b:List (Nat×Nat)) (S:List PV) (c:Option GE) (e:Km (.ns [11,12]) (lb KY 14) (λs=>s.g[14]?=some (.list<|w.es.map iJ)) (a.map iJ) (w.s1 ts o<|G R L) (none,w.s1 (ts++b) c<|G S L)) (g:dU R (16*a.length) S) (h:yf S b (a.map t8)):LaE w R L ts o a
section
variable{w:W2} {L:List GO}
theorem Wq(h:R+16*(n+1)+20<C):R+16+16*n+20<C/\R+20<C:=by omega
theorem Sq{ts}(u:Nat)(a:ts.length<az):uJ (w.s1 ts (some e) g) .append (.pl 10) [.tup [.int (u:Int),.int (Ar e:Nat)]]=some (.v .none,w.s1 (ts++[(u,Ar e)]) (some e) g):=lg (x:=(u,Ar e)) rfl a rfl
theorem Nj(f:L[2]?=some (.list<|w.es.map iJ)){tr}:∀{ts o R},Tb R->(∀e∈tr,gJ e)->ts.length+tr.length<az->R.length+16*tr.length+20<az->LaE w R L ts o tr:=by
 induction tr with
 |nil=>exact@λts o R _ _ _ _=>⟨[],R,o,by rw[u8];exact .nil f,.refl,.nil⟩
 |cons e tr A=>
  intro ts o R l i C D;have d:=Wq D;have q:=jU C;obtain⟨u,S,y,g,k⟩:∃(u:Nat)(S:List PV),oF (.ns [11,12]) (lb KY 14) (iJ e) (w.s1 ts o (G R L)) (w.s1 (ts++[(u,Ar e)]) (some e) (G S L))/\dU R 16 S/\EK S (u,Ar e) (t8 e):=by
   have h:=i e<|.head _
   have j:∀u S,uJ (w.s1 ts (some e)<|G S L) .append (.pl 10) [.tup [.int (u:Nat),.int (Ar e:Nat)]]=_:=λu S=>Sq u q.1
   induction e with
   |k c s=>
    have b:co s 3=false:=Uf.mpr λe=>absurd h.2 (by rw[ii e];decide)
    have r:=(vW h.1).1;obtain⟨u,S,e,g,k⟩:=gE (L:=L) (YD w.t w.m) (ac (pp _ _) d.2) r;exact⟨u,S,kt 12 [ob<|(eT (g:=G R L) (m:=s) (k:=3)).trans<|congrArg some b,oc e,om<|j u S],g.up<|wv _,rfl,b,KM.x k r⟩
   |t a=>obtain⟨u,S,e,g,k,s⟩:=IQ (L:=L) l (YD w.t w.m) h d.2;exact⟨u,S,kt 12 [od,oc e,om<|j u S],g,rfl,k,s⟩
  obtain⟨v,T,z,p,n,E⟩:=A (ts:=ts++[(u,Ar e)]) (o:=some e) (g.tb l) (λx m=>i x<|.tail _ m) (by rw[ch];exact q.2.2)<|ac (lf (lf g.len _) _) d.1
  rw[sK]at p;exact⟨(u,Ar e)::v,T,z,.cons f y p,(g.trans n).up<|EQ (wp ..),.cons (k.up n) E⟩
theorem Dx(a):isKey 6 (.tup<|A7 a)=true:=by
 show(isKey 5 (.int 13)&&(isKey 5 (.tup [])&&((a.map oh).all (isKey 4)&&(isKey 5 (.int 3)&&(isKey 5 (.tup [])&&(isKey 5 (.int 0)&&true))))))=true;rw[bv.mpr λx b=>by obtain⟨t,_,rfl⟩:=to.mp b;kernel_rfl]
 rfl
theorem WL(b:Bf p=true)(c:Zi R a p)(d:R.length<az):∃(q:Nat)(S:List PV),ai 8 [ak 0,dQ [],dQ<|a.map oh,ae 3] (G R L) (ae q) [none,none,none,none] (G S L)/\dU R 1 S/\pY S q p:=by
 refine eV (gh (R:=R)<|Dx a) λX i f e=>?_
 have g:dU R 1 (oe R<|.tup<|A7 a).2:=i▸.mk X f
 exact⟨_,_,kf 20 [od,od,oc<|pD (L:=L) (Dx a) d],g,b,a,cZ c λ_ _ h=>bz.up h g,aK e⟩
theorem VP:(PR.all λp=>Bf p&&(bx p.length 2&&p.all λc=>SL c 8194))=true:=by decide+kernel
inductive SgE(w:W2)(ts:List (Nat×Nat))(o:Option GE)(k:List (List Nat))(R:List PV)(L:List GO)(d:List Nat)(b a:Option RV)(c:List (List Nat)):Prop
 |mk (j:List Nat) (S:List PV) (i f:Option RV) (e:Km (.v 14) (lb KY 16) (λs=>s.g[15]?=some (.list<|k.map mj)) (c.map mj) (w.s2 ts o d b a<|G R L) (none,w.s2 ts o (d++j) i f<|G S L)) (g:dU R (3*c.length) S) (h:bc (pY S) j c):SgE w ts o k R L d b a c
end
section
variable{w:W2} {L:List GO}
theorem PG(h:p∈PR):Bf p=true/\p.length<=2/\∀c∈p,c<8194:=aE (bv.mp VP p h) λa h=>aE h λb c=>⟨a,io b,λx m=>io<|bv.mp c x m⟩
theorem Sw(h:bc (KF R id λu _=>oh u) b p):∃a,b=a.map oh/\Zi R a p:=by
 induction h with
 |nil=>exact⟨[],rfl,.nil⟩
 |cons h _ c=>refine aO c λa g e=>?_;obtain⟨u,f,d⟩:=h;exact⟨u::a,by rw[g,f];rfl,.cons d e⟩
theorem VC(h:R+3*(n+1)+20<C):R+3+3*n+20<C/\R+2+18<C:=by omega
theorem L3{ts o ps}(z:L[3]?=some (.list<|ps.map mj)){tr}:∀{qs a14 a15 R},(∀p∈tr,p∈PR)->qs.length+tr.length<az->R.length+3*tr.length+20<az->SgE w ts o ps R L qs a14 a15 tr:=by
 induction tr with
 |nil=>exact@λqs a14 a15 R _ _ _=>⟨[],R,a14,a15,by rw[u8];exact .nil z,.refl,.nil⟩
 |cons p tr Q=>
  intro qs a14 a15 R r V W;refine sA λC N=>?_;have J:=VC W;have q:=jU V;refine Ao (PG<|r p<|.head _) λP e O=>?_
  have I:=ac (am (db e _)<|pp _ 18) J.2
  obtain⟨ws,S,o2,H,D,Y⟩:=so (L:=L) (R:=R) (own:=[20]) (t:=.v 20) (v:=λc=>.int<|cI c) (code:=id) (F:=λu _=>oh u) (es:=p) (out:=[]) (o:=none) (elt:=.tup [(.c<|.str ⟨#[120]⟩),(.call 67 [(.v 2),(.v 20)]),aH]) (after:=λg c=>w.st ts o (some<|.ml none<|iv qs) (some<|.v<|mj p) a15 none (c.map λc=>ae<|cI c) none none g) (λ_=>True) (λ_ _ _=>trivial) (YD w.t w.m) (λ_ _ _=>rfl) (λR S a u h=>ke 9 [oc h]) O (by rw[tz,ss];exact ac e (by decide)) I
  obtain⟨d,rfl,U⟩:=Sw Y;rw[GM]at H;have cp:=eH (t:=.v 20) (i:=14) (s:=w.s2 ts o qs (some<|.v<|mj p) a15<|G R L) (y:=mj p) (src:=.l<|p.map λc=>.int<|cI c) rfl rfl H.Vn
  refine ju (WL (L:=L) P U<|ac D.len I) λx n e2 Z k=>?_
  have b:=(D.trans Z).up<|lf e 1
  obtain⟨M,T,j,f,E,A,X⟩:=Q (qs:=qs++[x]) (a14:=some<|.v<|mj p) (a15:=some<|.ml none<|d.map oh) (R:=n) (λy m=>r y<|.tail _ m) (ch▸q.2.2)<|ac (lf (lf b.len _) _) J.1
  rw[sK]at E;have ap:uJ (w.s2 ts o qs (some<|.v<|mj p) (some<|.ml none<|d.map oh)<|G n L) .append (.pl 13) [.int (x:Int)]=some (.v .none,w.s2 ts o (qs++[x]) (some<|.v<|mj p) (some<|.ml none<|d.map oh)<|G n L):=eU (out:=iv qs) rfl (by rw[aJ];exact q.1) (by rw[gF];rfl)
  refine N ?_;exact⟨x::M,T,j,f,.cons z (kt 12 [ox cp,od,oc e2,om ap]) E,(b.trans A).up<|EQ (wp ..),.cons (k.up A) X⟩
theorem DB(b:nv e=true)(h:Ok (λf=>f.e e s) (.ml none l,a)):Ok (λf=>f.e (.prom e) s) (ak a.g.length,⟨a.r,a.g++[.list l]⟩):=Ok.up (F:=λf=>nG f CT (.prom e) s) (h.one λf q=>by show rA f e s=_;rw[rA,tA b];exact bI q (mI (x:=.list l) rfl rfl)) λ_=>oz ..
theorem Sx{ks}(h:bc (KF R id λu _=>.int (u:Int)) c ks):(∀k∈ks,k<8192)->∃a,c=iv a/\oL R a ks:=by
 induction h with
 |nil=>exact λ_=>⟨[],rfl,.nil⟩
 | @cons x y _ _ h _ d=>
  intro l;refine aO (d λk m=>l k<|.tail _ m) λa g e=>?_
  obtain⟨u,f,b⟩:=h;exact⟨u::a,by rw[g,f];rfl,.cons (by have b:bz R (zx y) u:=b;rw[BI<|l y<|.head _]at b;exact b) e⟩
noncomputable def YS:Ex:=.prom<|.comp (.call 67 [(.v 2),(.v 22)]) [(.v 22,.v 21,[])]
inductive KdE(st:Option RV->Option RV->List GO->St)(R:List PV)(L:List GO)(n:Nat)(ks:List Nat):Prop
 |mk (a:List Nat) (S:List PV) (e:Ok (λf=>f.e YS<|st (some<|ak n) none<|G R L) (ak<|L.length+12,st (some<|ak n) none<|G S<|L++[.list<|iv a])) (g:dU R ks.length S) (h:oL S a ks):KdE st R L n ks
theorem aap(h:c<8192):cI c=c:=by delta cI;rw[show co c 8192=false from Uf.mpr λe=>absurd (ii e)<|bF h,show co c 8193=false from Uf.mpr λe=>absurd (ii e)<|bF<|kF h];rfl
theorem W0{ts ks}(M:n<4)(j:L[n]?=some (.list<|iv ks))(d:∀k∈ks,k<8192)(A:ks.length<64)(C:R.length+ks.length<az):KdE (λf e g=>w.st ts o (some<|.ml none<|iv qs) a14 a15 none none f e g) R L (n+12) ks:=by
 have kl:=ej λc m=>congrArg PV.int<|aap<|d c m
 obtain⟨I,S,J,p,E,D⟩:=so (L:=L) (R:=R) (own:=[22]) (t:=.v 22) (v:=λc=>.int<|cI c) (code:=id) (F:=λu _=>.int (u:Int)) (es:=ks) (out:=[]) (o:=none) (elt:=.call 67 [(.v 2),(.v 22)]) (after:=λg c=>w.st ts o (some<|.ml none<|iv qs) a14 a15 none none (some<|ak<|n+12) (c.map λc=>ae<|cI c) g) (λz=>z.2.g[n+12]?=some (.list<|iv ks)) (λ_ _ _=>j) (YD w.t w.m) (λ_ _ _=>rfl) (λR S a u h=>ke 9 [oc h]) (λk m=>Ev (d k m) (by decide)) (by rw[tz,ss];exact Ev A (by decide)) C
 refine aO (Sx D d) λq b x=>?_;subst b;rw[kl,GM]at p;have H:=eH (t:=.v 22) (i:=21) (s:=w.st ts o (some<|.ml none<|iv qs) a14 a15 none none (some<|ak<|n+12) none<|G R L) (y:=.aZ<|n+12) rfl (sd (g:=G R L) (l:=iv ks) j)<|p.toG (gl:=λz:List PV×St=>z.2.g) (i:=0) (k:=(iv ks).length+1) rfl<|Ix _
 have r:=DB rfl H;exact⟨q,S,r,E,x⟩
end
def YN(c b:List Nat)(d:List GE)(a:List (List Nat)):Nat->List PV
 |0=>iv c
 |1=>iv b
 |2=>d.map iJ
 |_=>a.map mj
def vG(b a:List Nat)(ts:List (Nat×Nat))(c:List Nat):Nat->List PV
 |0=>iv b
 |1=>iv a
 |2=>ab ts
 |_=>iv c
def W2.s3 (w:W2) (W:RV) (o:Option GE) (E D C z u q:Option RV) (g:List GO):St:=⟨[some<|qg w.l,some<|ak 0,some W,ni 17,ni 18,some<|ak 14,some<|ak 12,some<|ak 13,ni w.m,some<|ak 15,E,o.map λe=>.v<|zA e,o.map λe=>ae (Ar e:Nat),D,C,z,u,none,none,none,none,none,none,q],g⟩
section
variable{w:W2} {L:List GO} {R:List PV} {g:List GO}
inductive KwE(w:W2)(ts:List (Nat×Nat))(o:Option GE)(c:List Nat)(b a:Option RV)(R:List PV)(L:List GO)(j i:List Nat):Prop
 |mk (h d:List Nat) (S:List PV) (e:Ok (λf=>f.e (.comp YS [(.v 21,(.tup [(.v 6),(.v 7)]),[])])<|w.s2 ts o c b a<|G R L) (.ml none [.aZ 16,.aZ 17],w.s3 (.md none KU<|KG w.t w.m) o (some<|.ml none<|ab ts) (some<|.ml none<|iv c) b a none none<|G S<|L++[.list<|iv h,.list<|iv d])) (g:dU R 6 S) (l:oL S h j) (k:oL S d i):KwE w ts o c b a R L j i
theorem Z9{ts}(u:∀k∈b,k<8192)(r:∀k∈a,k<8192)(i:b.length<4)(h:a.length<4)(m:R.length+20<az):KwE w ts o qs a14 a15 R [.list<|iv b,.list<|iv a,x2,x3] b a:=by
 obtain⟨c,S,z,e,q⟩:=W0 (w:=w) (L:=[.list<|iv b,.list<|iv a,x2,x3]) (ts:=ts) (o:=o) (qs:=qs) (a14:=a14) (a15:=a15) (n:=0) (wv _) rfl u (Ev i (by decide))<|ac (db (am (ck i) (by decide)) _) m
 have e:=e.up<|cj i
 obtain⟨j,T,y,d,p⟩:=W0 (w:=w) (L:=[.list<|iv b,.list<|iv a,x2,x3,.list<|iv c]) (ts:=ts) (o:=o) (qs:=qs) (a14:=a14) (a15:=a15) (n:=1) (R:=S) (by decide) rfl r (Ev h (by decide))<|ac (TE e.len<|ck h)<|ac (by rw[wn];exact db (by decide) _) m
 have d:=d.up<|cj h
 refine⟨c,j,T,?_,e.trans d,d.Nq q,p⟩;exact fR (t:=.v 21) (it:=.tup [(.v 6),(.v 7)]) (cs:=[]) (elt:=YS) (x:=dQ [.aZ 12,.aZ 13]) (src:=.l [.aZ 12,.aZ 13]) (s:=w.s2 ts o qs a14 a15<|G R [.list<|iv b,.list<|iv a,x2,x3]) (s1:=w.s2 ts o qs a14 a15<|G R [.list<|iv b,.list<|iv a,x2,x3]) (s':=w.st ts o (some<|.ml none<|iv qs) a14 a15 none none (some<|ak 13) none<|G T [.list<|iv b,.list<|iv a,x2,x3,.list<|iv c,.list<|iv j]) (out:=[.aZ 16,.aZ 17]) rfl (ke 9 []) rfl (Lp.Vn (P:=λ_=>True) (turn:=λf=>compTurn f [21] YS (.v 21) [])<|.cons trivial (fV (t:=.v 21) (cs:=[]) (out:=[]) (s:=w.s2 ts o qs a14 a15<|G R [.list<|iv b,.list<|iv a,x2,x3]) rfl d9 (wv _) z)<|.cons trivial (fV (t:=.v 21) (cs:=[]) (out:=[.aZ 16]) (s:=w.st ts o (some<|.ml none<|iv qs) a14 a15 none none (some<|ak 12) none<|G S [.list<|iv b,.list<|iv a,x2,x3,.list<|iv c]) rfl d9 (by decide) y)<|.nil trivial)
theorem SR{ts}:Ok (λf=>cH f (.asg (.sub (.v 2)<|.c<|.str pd)<|.lst [(.sub (.v 16) aH),(.sub (.v 16) bJ),(.prom<|.v 10),(.prom<|.v 13)])<|w.s3 (.md none KU<|KG w.t w.m) o (some<|.ml none<|ab ts) (some<|.ml none<|iv qs) a14 a15 (some<|.ml none [.aZ 16,.aZ 17]) none<|G R [x0,x1,x2,x3,x4,x5]) (.dK,w.s3 (.md none Ss<|QW w.t w.m) o (some<|ak 18) (some<|ak 19) a14 a15 (some<|.ml none [.aZ 16,.aZ 17]) none<|G R [x0,x1,x2,x3,x4,x5,.list<|ab ts,.list<|iv qs]):=by
 have b:=qS (s:=w.s3 (.md none KU<|KG w.t w.m) o (some<|.ml none<|ab ts) (some<|.ml none<|iv qs) a14 a15 (some<|.ml none [.aZ 16,.aZ 17]) none<|G R [x0,x1,x2,x3,x4,x5]) (i:=10) (l:=ab ts) rfl
 have a:=qS (s:=w.s3 (.md none KU<|KG w.t w.m) o (some<|ak 18) (some<|.ml none<|iv qs) a14 a15 (some<|.ml none [.aZ 16,.aZ 17]) none<|G R [x0,x1,x2,x3,x4,x5,.list<|ab ts]) (i:=13) (l:=iv qs) rfl
 exact xf (r:=.ml none pO) (s1:=w.s3 (.md none KU<|KG w.t w.m) o (some<|ak 18) (some<|ak 19) a14 a15 (some<|.ml none [.aZ 16,.aZ 17]) none<|G R [x0,x1,x2,x3,x4,x5,.list<|ab ts,.list<|iv qs]) (ke 9 [od,od,ox b,ox a]) rfl (by kernel_rfl) rfl
theorem W7:Ok (λf=>cH f (.asg (.sub (.v 2)<|.c<|.str sf)<|.prom<|.comp (.sl (.v 23) none none) [(.v 23,(.sub (.v 2)<|.c<|.str pd),[])])<|w.s3 (.md none Ss<|QW w.t w.m) o a10 a13 a14 a15 a16 none<|G R [x0,x1,x2,x3,.list<|h 0,.list<|h 1,.list<|h 2,.list<|h 3]) (.dK,w.s3 (.md none Wv<|U6 w.t w.m) o a10 a13 a14 a15 a16 none<|G R [x0,x1,x2,x3,.list<|h 0,.list<|h 1,.list<|h 2,.list<|h 3,.list<|K1 h]):=by
 refine fN (pF (v:=λj:Nat=>PV.aZ (j+16)) (F:=λj=>.ml none (h j)) (p:=λ_=>true) (after:=λj=>w.s3 (.md none Ss (QW w.t w.m)) o a10 a13 a14 a15 a16 (j.map λj=>ak (j+16)) (G R [x0,x1,x2,x3,.list (h 0),.list (h 1),.list (h 2),.list (h 3)])) (own:=[23]) (elt:=.sl (.v 23) none none) (t:=.v 23) (cs:=[]) (λ_ _=>rfl) (l:=[0,1,2,3]) (out:=[]) (o:=none) (by decide) (λ_ _=>d9) (λj m _=>by
  have a:(G R [x0,x1,x2,x3,.list<|h 0,.list<|h 1,.list<|h 2,.list<|h 3])[j+16]?=some (.list<|h j):=by
   have:j<4:=by simp only[rc,eA,or_false]at m;omega
   exact KS (P:=λj=>(G R [x0,x1,x2,x3,.list<|h 0,.list<|h 1,.list<|h 2,.list<|h 3])[j+16]?=some (.list<|h j)) rfl rfl rfl rfl this
  exact ke 9 [ov (A6 a)])) λd e=>?_
 have b:=fR (t:=.v 23) (it:=.sub (.v 2)<|.c<|.str pd) (cs:=[]) (elt:=.sl (.v 23) none none) (x:=.v<|.lst pO) (src:=.l pO) (s:=w.s3 (.md none Ss<|QW w.t w.m) o a10 a13 a14 a15 a16 none<|G R [x0,x1,x2,x3,.list<|h 0,.list<|h 1,.list<|h 2,.list<|h 3]) (s1:=w.s3 (.md none Ss<|QW w.t w.m) o a10 a13 a14 a15 a16 none<|G R [x0,x1,x2,x3,.list<|h 0,.list<|h 1,.list<|h 2,.list<|h 3]) rfl (ke 9 [od]) rfl e
 exact xf (r:=ak 20) (s1:=w.s3 (.md none Ss<|QW w.t w.m) o a10 a13 a14 a15 a16 none<|G R [x0,x1,x2,x3,.list<|h 0,.list<|h 1,.list<|h 2,.list<|h 3,.list<|K1 h]) (DB rfl b) rfl (by kernel_rfl) rfl
end
theorem Cz:Tb B:=⟨[],(u8 B).symm⟩
theorem nc{f:j->e}{g:i->d}(h:bc (λa b=>P (f a)<|g b) l m):bc P (l.map f) (m.map g):=by
 induction h with
 |nil=>exact .nil
 |cons h _ c=>exact .cons h c
theorem B7{f:g->d}:∀{l:List i},bc P l (m.map f)->bc (λa b=>P a<|f b) l m:=by
 induction m with
 |nil=>exact λh=>h.ZP▸.nil
 |cons b m c=>exact λh=>h.JH λx j e a t=>e▸.cons a (c t)
theorem na{Q:d->Prop}{l:List e}(h:bc P l m):(∀b∈m,Q b)->bc (λa b=>P a b/\Q b) l m:=by
 induction h with
 |nil=>exact λ_=>.nil
 |cons h _ c=>exact λq=>.cons ⟨h,q _<|.head _⟩<|c λb m=>q b<|.tail _ m
section
variable{S:List PV}
theorem UY{ts}(v:oL S d n)(u:oL S c m)(t:yf S ts (o.map t8))(s:bc (pY S) i l)(E:∀k∈n,k∈TK)(D:∀k∈m,k∈TK)(C:∀e∈o,gJ e)(A:∀p∈l,p∈PR)(z:n.length<4) (y:m.length<4) (x:o.length<=3) (w:l.length<5):WI S (YN n m o l) (vG d c ts i):=by exact⟨λj r=>KS (P:=λj=>bc (PJ S j) (vG d c ts i j) (YN n m o l j)) (nc (f:=λq:Nat=>PV.int (q:Int)) (g:=λq:Nat=>PV.int (q:Int)) (cZ (na v E) λa b h=>⟨λq=>(nomatch q),λq=>(nomatch q),λ_ _=>⟨a,b,rfl,rfl,h⟩⟩)) (nc (f:=λq:Nat=>PV.int (q:Int)) (g:=λq:Nat=>PV.int (q:Int)) (cZ (na u D) λa b h=>⟨λq=>(nomatch q),λq=>(nomatch q),λ_ _=>⟨a,b,rfl,rfl,h⟩⟩)) (nc (f:=eN) (g:=iJ) (cZ (na (B7 t) C) λa b h=>⟨λ_=>⟨a,b,rfl,rfl,h⟩,λq=>(nomatch q),λq=>(q rfl).elim⟩)) (nc (f:=λq:Nat=>PV.int (q:Int)) (g:=mj) (cZ (na s A) λa b h=>⟨λq=>(nomatch q),λ_=>⟨a,b,rfl,rfl,h.1,ac (PG h.2).2.1 (by decide)⟩,λ_ q=>(q rfl).elim⟩)) r,λj r=>KS (P:=λj=>(vG d c ts i j).length<=bif co j 3 then 4 else 3) (show(iv d).length<=3 by rw[aJ,v.len];exact cj z) (show(iv c).length<=3 by rw[aJ,u.len];exact cj y) (show(ab ts).length<=3 by rw[aC,fb t,im];exact x) (show(iv i).length<=4 by rw[aJ,fb s];exact cj w) r⟩
inductive Kh(l:List Int):Prop
 |mk (t m:Nat) (a h:Nat->List PV) (b:List Int) (S:List PV) (e:ai 81 [qg l] [] (.md none Wv<|U6 t m) [some<|qg b] (G S<|LW a h h)) (j:Tb S) (g:∀x∈S,isKey 6 x=true) (f:S.length<=100) (d:m∈MU) (c:KM S m t) (i:WI S a h):Kh l
theorem J5:(B.all<|isKey 6)=true:=by kernel_rfl
theorem dU.keys {R S} (g:dU R c S) (h:∀x∈R,isKey 6 x=true):∀x∈S,isKey 6 x=true:=by obtain⟨X,k⟩:=g;exact λx m=>(TD.mp m).elim (h x)<|k.2 x
theorem D9:az=1048576:=rfl
theorem Nt(l):Kh l:=by
 obtain⟨a,j,f,ps,t,m,c,R,J,W,N,H,M,F,I,V,hm,Z,A,e1⟩:=w_1 l;have Q:R.length<=24:=A.len;have cv:=D9;obtain⟨ts,E,o,e2,D,Y⟩:=Nj (w:=⟨c,t,m,a⟩) (L:=[.list<|iv j,.list<|iv f,.list<|a.map iJ,.list<|ps.map mj]) rfl (tr:=a) (ts:=[]) (o:=none) (A.tb Cz) J (by rw[tz];omega) (by omega)
 have s1:=D.len;obtain⟨qs,S2,e,d,e3,x,X⟩:=L3 (w:=⟨c,t,m,a⟩) (L:=[.list<|iv j,.list<|iv f,.list<|a.map iJ,.list<|ps.map mj]) (ts:=ts) (o:=o) (ps:=ps) rfl (tr:=ps) (qs:=[]) (a14:=none) (a15:=none) (R:=E) I (by rw[tz];omega) (by omega)
 have s2:=x.len;obtain⟨q,p,y,e4,u,U,T⟩:=Z9 (w:=⟨c,t,m,a⟩) (ts:=ts) (o:=o) (qs:=qs) (a14:=e) (a15:=d) (x2:=.list<|a.map iJ) (x3:=.list<|ps.map mj) (R:=S2) (λk z=>Cy<|N k z) (λk z=>Cy<|M k z) H F (by omega)
 have s3:=u.len;have C:=x.trans u;have O:=((A.trans D).trans x).trans u;have hT:=O.tb Cz;have P:=UY U T (Y.up C) (cZ X λ_ _ h=>h.up u) N M J I H F W V;have f1:=mh (t:=.ns [11,12]) (b:=lb KY 14) (i:=5) (n:=14) (rs:=(W2.s1 ⟨c,t,m,a⟩ [] none<|G R []).r) (g:=G R [.list<|iv j,.list<|iv f,.list<|a.map iJ,.list<|ps.map mj]) (l:=a.map iJ) rfl rfl<|e2.toG (gl:=λs:St=>s.g) (i:=0) (k:=(a.map iJ).length+1) rfl<|Ix _
 have f2:=mh (t:=.v 14) (b:=lb KY 16) (i:=9) (n:=15) (rs:=(W2.s2 ⟨c,t,m,a⟩ ts o [] none none<|G E []).r) (g:=G E [.list<|iv j,.list<|iv f,.list<|a.map iJ,.list<|ps.map mj]) (l:=ps.map mj) rfl rfl<|e3.toG (gl:=λs:St=>s.g) (i:=0) (k:=(ps.map mj).length+1) rfl<|Ix _
 have hd:=SR (w:=⟨c,t,m,a⟩) (R:=y) (ts:=ts) (o:=o) (qs:=qs) (a14:=e) (a15:=d) (x0:=.list<|iv j) (x1:=.list<|iv f) (x2:=.list<|a.map iJ) (x3:=.list<|ps.map mj) (x4:=.list<|iv q) (x5:=.list<|iv p)
 have cp:=W7 (w:=⟨c,t,m,a⟩) (R:=y) (o:=o) (a10:=some<|ak 18) (a13:=some<|ak 19) (a14:=e) (a15:=d) (a16:=some<|.ml none [.aZ 16,.aZ 17]) (x0:=.list<|iv j) (x1:=.list<|iv f) (x2:=.list<|a.map iJ) (x3:=.list<|ps.map mj) (h:=vG q p ts qs)
 refine⟨t,m,YN j f a ps,vG q p ts qs,c,y,?_,hT,O.keys<|bv.mp J5,by omega,hm,((D.trans x).trans u).km Z,P⟩
 exact kcB (fi:=81) (st:=(W2.s3 ⟨c,t,m,a⟩ (.v .none) o (some<|ak 18) (some<|ak 19) e d (some<|.ml none [.aZ 16,.aZ 17]) none<|G y<|LW (YN j f a ps) (vG q p ts qs)<|vG q p ts qs).put 2 none) (fl:=.ret<|.md none Wv<|U6 t m) rfl rfl (IJ (U0 l)<|IJ e1<|kl (b:=KY.body.drop 13) 20 [os f1,os f2,ox e4,os hd,os cp]) rfl
end
section
variable{g:List GO}
inductive T8(g:List GO)(n:Nat)(x:PV):Prop
 |mk (d:gW) (h:dat g n x=some d) (a:d.canLay0=true):T8 g n x
inductive T7(g:List GO)(n:Nat)(l:List PV):Prop
 |mk (a:List gW) (h:k5 (dat g n) l=some a) (b:ca a=true):T7 g n l
theorem xD:(∀x∈l,T8 g n x)->T7 g n l:=by
 induction l with
 |nil=>exact@λ_=>⟨[],rfl,by rw[ca]⟩
 |cons x l c=>
  intro h;obtain⟨d,f,b⟩:=h x<|.head _
  obtain⟨i,e,a⟩:=c λy m=>h y<|.tail _ m
  exact⟨d::i,bI f<|mI e rfl,by rw[ca,b,a];rfl⟩
theorem xC:∀{k n x},k<n->isKey k x=true->T8 g n x
 |k,n+1,x,b,h=>tX h (λi e=>e▸⟨.int i,rfl,by rw[fe]⟩) (λs e k=>e▸⟨.str s,if_pos k,by rw[fe];exact k⟩) λm l j f h=>by
  subst j f;obtain⟨o,d,c⟩:=xD (g:=g) (n:=n) (l:=l) λy a=>xC (bg b)<|bv.mp h y a
  exact⟨.tuple o,mI d rfl,by rw[fe];exact c⟩
theorem N5(h:∀x∈S,isKey 6 x=true):aS g .Eq (.ml none S) (.ml none S)=some true:=by
 obtain⟨c,a,b⟩:=xD (g:=g) (n:=9) λx m=>xC (ut ..)<|h x m
 exact BO (d:=.list c) (mI a rfl) (mI a rfl) (by rw[fe];exact b)
end
theorem PJ.key (h:PJ R j u v):isKey 1 u=true:=by
 by_cases a:j=2
 .exact AG (h.e a) λ_ _ e _ _ _=>e▸rfl
 by_cases b:j=3
 .exact AG (h.s b) λ_ _ e _ _ _=>e▸rfl
 exact AG (h.k a b) λ_ _ e _ _ _=>e▸rfl
theorem WI.dat (i:WI R u h) (q:j<4):T7 g 2 (h j):=xD λx m=>by refine aO (mB (i.it j q) x m) λy _ p=>?_;exact xC (v6 _) p.key
theorem m7(h:∀x d,f x=some d->c x=some d):∀{a},k5 f l=some a->k5 c l=some a:=by
 induction l with
 |nil=>exact@λ_ e=>e
 |cons _ _ b=>exact@λ_ e=>bE e λd i e=>mE e λj g q=>q▸bI (h _ _ i) (mI (b g) rfl)
theorem pS:∀(n)(x)(d),dat g n x=some d->dat g (n+1) x=some d
 |n+1,x,d,h=>by
  cases x with
  |tup l=>exact mE h λa e q=>q▸mI (m7 (pS n) e) rfl
  |lst l=>exact mE h λa e q=>q▸mI (m7 (pS n) e) rfl
  |aZ k=>exact bE h λl e h=>mE h λa b q=>q▸bI e (mI (m7 (pS n) b) rfl)
  |_=>exact h
theorem JE(i:f a=some x)(h:f b=some y)(g:f c=some z)(e:f d=some u):k5 f [a,b,c,d]=some [x,y,z,u]:=bI i<|mI (bI h<|mI (bI g<|mI (bI e<|mI rfl rfl) rfl) rfl) rfl
theorem L4(i:WI R c h):aS (G S<|LW c h h) .NotEq (.v<|.lst pO) (ak 20)=some false:=by
 obtain⟨w,e0,C⟩:=i.dat (g:=G S<|LW c h h) (j:=0)<|wv _
 obtain⟨u,q,A⟩:=i.dat (g:=G S<|LW c h h) (j:=1) (by decide)
 obtain⟨t,p,z⟩:=i.dat (g:=G S<|LW c h h) (j:=2) (by decide)
 obtain⟨s,o,y⟩:=i.dat (g:=G S<|LW c h h) (j:=3)<|v6 _
 have f:∀{l:List PV}{r:List gW}(n:Nat),k5 (dat (G S<|LW c h h) 2) l=some r->k5 (dat (G S<|LW c h h)<|n+2) l=some r:=λn e=>by
  induction n with
  |zero=>exact e
  |succ n D=>exact m7 (pS _) D
 have m:∀(k:Nat)(l:List PV)(d:List gW),(G S<|LW c h h)[k]?=some (.list l)->k5 (dat (G S<|LW c h h) 2) l=some d->dat (G S<|LW c h h) 8 (.aZ k)=some (.list d):=λk l d E e=>bI (x:=l) (bI E rfl)<|mI (f 5 e) rfl
 have a:BR (G S<|LW c h h) (.v<|.lst pO)=some (.list [.list w,.list u,.list t,.list s]):=mI (JE (m 16 _ _ rfl e0) (m 17 _ _ rfl q) (m 18 _ _ rfl p)<|m 19 _ _ rfl o) rfl
 have b:BR (G S<|LW c h h) (ak 20)=some (.list [.list w,.list u,.list t,.list s]):=by
  show((G S<|LW c h h)[20]?.bind GO.vy).bind (λl=>(k5 (dat (G S<|LW c h h) 8) l).map gW.list)=_
  exact bI (x:=K1 h) rfl<|mI (JE (mI (f 5 e0) rfl) (mI (f 5 q) rfl) (mI (f 5 p) rfl)<|mI (f 5 o) rfl) rfl
 exact mI (BO a b (by simp only[fe,ca,C,A,z,y];rfl)) rfl
noncomputable abbrev rN(l:List Int):List PV:=l.map .int
noncomputable def BS:List Nat:=[3,0,0,2,1,0,1,2,0,2,2,3,0,0,3,0,6,1,0,1,3,3,6,0,5,1,2,0,7,1,1,0]
def Gl(b a c:List Int)(o:Option Nat):St:=⟨[some<|.v<|.lst<|rN b,some<|.ml none<|rN a,some<|.ml none<|rN c,on o,none,none,none,none,none,none],[]⟩
section
variable{sc sh pl:List Int}
theorem Ik(sc):∃sh:List Int,ya [] (.v<|.lst<|rN sc) none (some<|.int 32)=some (.ml none<|rN sh)/\sh.length<=sc.length:=by
 refine⟨sc.take<|QN (rN sc).length 32,bI (x:=rN sc) rfl<|bI (x:=0) rfl<|mI (x:=QN (rN sc).length 32) rfl ?_,by exact cV▸eD _ _⟩
 exact(congrArg _ kG).symm
theorem MY{i:Nat}(m:i<32)(k:pl.length<az):∃x:Int,oF (.v 3) (lb KW 2) (.int (i:Int)) (Gl sc sh pl o)<|Gl sc sh (pl++[x])<|some i:=by
 refine aO (xn (l:=BS) m) λb _ c=>?_;have c:=jH (g:=[]) c;have a:∀x:Int,uJ (Gl sc sh pl<|some i) .append (.pl 2) [.int x]=some (.v .none,Gl sc sh (pl++[x])<|some i):=λx=>eU (out:=rN pl) rfl (by rw[im];exact k) (by delta Gl;refine(show rN (pl++[x])=rN pl++[.int x] from AC)▸?_;rfl)
 match sh,a with
 |[],a=>exact⟨(b:Int)+0,kt 15 [op c,od,od,om<|a<|(b:Int)+0]⟩
 |y::sh,a=>
  have j:uK [] .len (.ml none<|rN<|y::sh)=some (ae ((y::sh).length:Nat)):=congrArg (λn:Nat=>some<|RV.v<|.int n)<|im _
  have f:=rB (g:=[]) i (y::sh).length<|decide_eq_true<|aV.mpr<|wv _
  have h:i % (y::sh).length<(y::sh).length:=fF _<|wv _
  have e:gy [] (.ml none<|rN<|y::sh) (.int ((i % (y::sh).length:Nat):Int))=some (.int<|(y::sh)[i % (y::sh).length]):=by
   have d:(rN<|y::sh)[i % (y::sh).length]?=some (.int<|(y::sh)[i % (y::sh).length]):=H1.trans<|congrArg _<|At h
   exact bI (fU d) d
  exact⟨(b:Int)+(y::sh)[i % (y::sh).length],kt 15 [op c,od,ov j,ov f,op e,od,om<|a<|(b:Int)+(y::sh)[i % (y::sh).length]]⟩
theorem MZ{qs}:∀{pl o},(∀q∈qs,q<32)->pl.length+qs.length<az->∃(a:List Int)(b:Option Nat),Ok (λf=>bb (forTurn f (.v 3)<|lb KW 2) (iv qs)<|Gl sc sh pl o) (none,Gl sc sh a b):=by
 induction qs with
 |nil=>exact@λpl o _ _=>⟨pl,o,cT⟩
 |cons q qs d=>
  intro pl o h c;obtain⟨x,e⟩:=MY (sc:=sc) (sh:=sh) (o:=o) (h q<|.head _) (jU c).1
  refine jF (d (pl:=pl++[x]) (o:=some q) (λy m=>h y<|.tail _ m) (by exact ch▸(jU c).2.2)) λa b g=>?_
  exact⟨a,b,aQ e g⟩
structure W3 where
 sc:List Int
 sh:List Int
 o3:Option Nat
 t:Nat
 m:Nat
 R0:List PV
def W3.st (w:W3) (pl:List Int) (q:List (Nat×Nat)) (C z u:Option RV) (g:List GO):St:=⟨[some<|.v<|.lst<|rN w.sc,some<|.ml none<|rN w.sh,some<|.ml none<|rN pl,on w.o3,some<|.md none Wv<|U6 w.t w.m,some<|.ml none w.R0,some<|.ml none<|ab q,C,z,u],g⟩
variable{w:W3} {g:List GO}
def RE(a:List (Nat×Nat)):Prop:=∀d∈a,d.1<8/\d.2<12
theorem Oa{q:Nat}(i:c.length<az):∃(e:List Int)(d:Nat×Nat),oF (.v 7) (lb KW 7) (.int (q:Int)) (w.st pl c a7 a8 none g) (w.st e (c++[d]) (ni q) (ni d.1) none g)/\d.1<8/\d.2<12:=by obtain⟨a,h,k,n,_⟩:=jh (g:=g) (m:=8) (wv _) pl;obtain⟨b,f,j,l,_⟩:=jh (g:=g) (m:=12) (wv _) h;have o:uJ (w.st f c (ni q) (ni a) none g) .append (.pl 6) [eN (a,b)]=some (.v .none,w.st f (c++[(a,b)]) (ni q) (ni a) none g):=lg rfl i rfl;exact⟨f,(a,b),kt 12 [oc n,oc l,om o],k,j⟩
theorem Oc{qs}:∀{pl ds a7 a8},RE ds->ds.length+qs.length<az->∃(b:List Int)(a:List (Nat×Nat))(j i:Option RV),Ok (λf=>bb (forTurn f (.v 7)<|lb KW 7) (iv qs)<|w.st pl ds a7 a8 none g) (none,w.st b a j i none g)/\RE a/\a.length=ds.length+qs.length:=by
 induction qs with
 |nil=>exact@λpl ds a7 a8 h _=>⟨pl,ds,a7,a8,cT,h,rfl⟩
 |cons q qs p=>
  intro pl ds a7 a8 h k;refine sA λC l=>?_;refine ju (Oa (w:=w) (g:=g) (pl:=pl) (a7:=a7) (a8:=a8) (q:=q) (jU k).1) λo d e r c=>?_;refine Zn (p (pl:=o) (ds:=ds++[d]) (a7:=ni q) (a8:=ni d.1) (λx m=>(TD.mp m).elim (h x) λm=>wP.mp m▸⟨r,c⟩) (by exact ch▸(jU k).2.2)) λb a j i t s n=>?_
  refine l ?_;exact⟨b,a,j,i,aQ e t,s,n.trans (by rw[ch,wn,wp [d].length];rfl)⟩
end
inductive DlE(w:W3)(b:List Int)(d:List (Nat×Nat))(i m l:Option RV)(S:List PV)(j h:Nat->List PV)(a:List (Nat×Nat)):Prop
 |mk (c k:Nat->List PV) (n:List PV) (p o:Option RV) (e:Ok (λf=>bb (forTurn f (.ns [8,9])<|lb KW 8) (ab a)<|w.st b d i m l<|G S<|LW j h h) (none,w.st b d i p o<|G n<|LW c k k)) (g:dU S (1000*a.length) n):DlE w b d i m l S j h a
theorem XE(h:R+1000*(n+1)+1010<C):R+1000+1000*n+1010<C/\R+1010<C:=by omega
theorem Od(u:w.m∈MU){tr}:∀{a8 a9 S b h},Tb S->WI S b h->KM S w.m w.t->RE tr->S.length+1000*tr.length+1010<az->DlE w pl ds a7 a8 a9 S b h tr:=by
 induction tr with
 |nil=>exact@λa8 a9 S b h _ _ _ _ _=>⟨b,h,S,a8,a9,cT,.refl⟩
 |cons d tr s=>
  intro a8 a9 S b h o i n k v;have p:=XE v;obtain⟨r,q⟩:=k d<|.head _
  obtain⟨j,a,c,e,g,l⟩:=SS o (YC w.t w.m) n u i p.2 r q;obtain⟨f,y,E,D,C,A,z⟩:=s (a8:=ni d.1) (a9:=ni d.2) (g.tb o) l (g.km n) (λx m=>k x<|.tail _ m)<|ac (lf (lf g.len _) _) p.1
  exact⟨f,y,E,D,C,aQ (kt 12 [oc e,od,op<|(YC w.t w.m).handed (G j<|LW a c c) none,op<|(YC w.t w.m).BV (G j<|LW a c c) none,ob<|L4 (S:=j) l]) A,(g.trans z).up<|EQ (wp ..)⟩
theorem Sb(h:s.get i=some (.ml none l))(a:s.put i (some<|.ml none l.reverse)=s'):uJ s .reverse (.pl i) []=some (.v .none,s'):=by refine bI h ?_;exact mI (x:=s') (bI h<|congrArg some a) rfl
theorem dU.take (g:dU S c T):T.take S.length=S/\S.length<=T.length:=by obtain⟨X,_⟩:=g;exact⟨vc,ch▸pp _ _⟩
theorem WY(sc)(hl:sc.length<az):∃g,ai 82 [.v<|.lst<|rN sc] [] (dj true) [none] g:=by
 refine sA λC J=>?_;refine aO (Ik sc) λsh e0 _=>?_;refine jF (MZ (sc:=sc) (sh:=sh) (qs:=Db 32) (pl:=[]) (o:=none) (λq m=>bS.mp m) (by decide)) λpl f e1=>?_
 have f1:=ka (t:=.v 3) (b:=lb KW 2) (it:=.bi .range u5) (s:=Gl sc sh [] none) (s1:=Gl sc sh [] none) (ke 5 [od]) (dt (g:=[]) (n:=32))<|cz (src:=.l _) e1
 have I:=Sb (s:=Gl sc sh pl f) (i:=2) (l:=rN pl) (s':=Gl sc sh pl.reverse f) rfl (by delta Gl;exact(show rN pl.reverse=(rN pl).reverse from rZ)▸rfl)
 obtain⟨t,m,c,h,N,S,V,U,R,y,Q,O,F⟩:=Nt pl.reverse;have z:=YC t m;obtain⟨r,u,P,Z,_⟩:=jh (g:=G S<|LW c h h) (m:=12) (wv _) N
 obtain⟨x,k,hx,Y,_⟩:=jh (g:=G S<|LW c h h) (m:=3) (wv _) u
 have ad:hK (G S<|LW c h h) .Add (ae 2) (ae x)=some (ae ((2+x:Nat):Int)):=rfl
 have fN:2+x<=4:=by omega
 have H:=A6 (g:=G S<|LW c h h) (n:=2) (l:=S) rfl
 refine Zn (Oc (w:=⟨sc,sh,f,t,m,S⟩) (g:=G S<|LW c h h) (qs:=Db<|2+x) (pl:=k) (ds:=[(4,r)]) (a7:=none) (a8:=none) (λd m=>wP.mp m▸⟨(by decide:4<8),P⟩) (by exact ba▸ac (db fN 1) (by decide))) λM ds b7 b8 X j D=>?_
 rw[ba]at D;have f2:=ka (t:=.v 7) (b:=lb KW 7) (it:=.bi .range<|.bin .Add gM<|.call 62 [(.v 2),gV]) (s:=W3.st ⟨sc,sh,f,t,m,S⟩ u [(4,r)] none none none<|G S<|LW c h h) (s1:=W3.st ⟨sc,sh,f,t,m,S⟩ k [(4,r)] none none none<|G S<|LW c h h) (ke 12 [oc Y,ov ad,ov<|fH (g:=G S<|LW c h h)<|am fN (by decide)]) (dt (g:=G S<|LW c h h) (n:=2+x))<|cz (src:=.l _) X
 have E:ds.length<=5:=D▸db fN 1;obtain⟨a,e,T,b8',b9',W,A⟩:=Od (w:=⟨sc,sh,f,t,m,S⟩) (pl:=M) (ds:=ds) (a7:=b7) Q (tr:=ds++ds) (a8:=b8) (a9:=none) U F O (λd m=>(TD.mp m).elim (j d) (j d)) (by refine ch▸?_;have cv:=D9;omega)
 have dd:hK (G S<|LW c h h) .Add (.ml none<|ab ds) (.ml none<|ab ds)=some (.ml none<|ab<|ds++ds):=(mC<|aC▸am (TE E E) (by decide)).trans (by delta ab;rw[AC])
 have L:uK (G T<|LW a e e) .len (.ml none S)=some (ae (S.length:Nat)):=rfl
 have st:=Hr (g:=G T<|LW a e e) (n:=2) (l:=T) (p:=S.length) rfl A.take.2
 rw[A.take.1]at st;refine J ?_;exact⟨G T<|LW a e e,kf 20 [ov e0,os f1,om I,oc V,op<|z.tab (G S<|LW c h h) none,ov H,oc Z,os f2,ov dd,ol<|cz (src:=.l _) W,op<|z.tab (G T<|LW a e e) none,ov L,ov st,ob<|N5 (g:=G T<|LW a e e) R]⟩
theorem Nh(a)(b:a.length<az):∃g,(ev FT CT 84).call 82 [.v<|.lst<|rN a] []=some (dj true,[none],g):=by obtain⟨g,n,h⟩:=WY a b;have h:=h 0;rw[dg]at h;exact⟨g,(CV (m:=84) (ut ..) _).call (v6 _) _ h⟩
end Mine.Internal
end
section
open PySem PySem.Calls PyProof.Rows PySem.W
namespace Mine.Internal.Hd
theorem BL(e:h.get? a=some o):(vI h).O a=some (.fz o):=congrArg (jo cL.fz) e
theorem Jg{C:Prop}(e:(vI h).O a=some t)(k:∀o,h.get? a=some o->cL.fz o=t->C):C:=mE e k
theorem ZI:Rel b [] (vI b.dD) [] [] b.dD:=⟨λ_ _ e=>Jg e λo h _=>⟨o,h⟩,λa o e=>Jg e λc h q=>cL.fz.inj q▸h,λ_ _ e=>BL e,⟨rfl,λ_ _ e=>nE e⟩,rfl,λ_ _ e=>nE e,λ_ _ _ _ e=>nE e,λ_ _ e=>nE e⟩
theorem NF{a}:∀{b},WShape.hasItems [] a .int=true->WellAll P h b a->∃c:List Int,c.length=a.length/\b.length=a.length/\∀(e)(W),ah e W (rN c) b:=by
 induction a with
 |nil=>intro b _ f;cases f;exact⟨[],rfl,rfl,λ_ _=>trivial⟩
 |cons x a l=>
  intro b g f;obtain⟨v,k,rfl,w,j⟩:=wellAll_cons_inv f;obtain⟨i,rfl⟩:=hasW_int<|aL g
  obtain⟨c,o,n,m⟩:=l (aR g) j;exact fN (Uj<|flat_of_well (d:=.int i) rfl w) λt q=>⟨i::c,congrArg dO o,congrArg dO n,λe W=>⟨⟨t,q⟩,m e W⟩⟩
theorem aaq:fq callerA 84:=⟨rfl,by decide+kernel,by decide+kernel⟩
theorem RS:KW.name=jv "law":=by kernel_rfl
theorem So(h:(PySem.W.WTm.not<|.lt (.lit<|.int 63)<|.len<|.arg 0).holds [] {args:=[.list a]}=true):a.length<=63:=by
 have e:(PySem.W.WTm.not<|.lt (.lit<|.int 63)<|.len<|.arg 0).value [] {args:=[.list a]}=some (.bool<|!decide ((63:Int)<a.length)):=by kernel_rfl
 exact Lb λz=>by
  delta PySem.W.WTm.holds at h;rw[e,decide_eq_true<|show(63:Int)<a.length from aV.mpr z]at h
  exact ff h
theorem LI(Y:YH s.heap)(k:s.heap.NoLimit)(D:s.heap.Ns mainGlobals j)(E:s.heap.Ns builtinsNs y)(l:j (jv "law")=some (.ref fa)) (F:s.heap.get? a=some (jz vs.toArray 0)) (C:sc.length<az) (z:vs.length<az) (A:∀(Z:Cx)(W:Gh),ah Z W (rN sc) vs):codeAny (model P0 w) callerA (.call (.ref fa) ⟨[.ref a],[]⟩) (λr f=>r=.ok (.ret<|.bool true)/\(∃H u,f={s with heap:=H,toks:=u})/\∀b o,s.heap.get? b=some o->f.heap.get? b=some o) s:=by
 obtain⟨g,n,x,I⟩:=Y;obtain⟨B,q⟩:=Jw (Z:=Xi g P0 w s.heap j y) n x I Q5 (T4 g n _) k D E;obtain⟨L,d⟩:=Nh sc C;have m:fa=1104:=(eK<|sJ<|(q.gl 82 KW 1104 rfl rfl rfl).symm.trans<|(congrArg j RS).trans l).symm
 subst m;have S:=(sound B q 84).call (fi:=82) (fa:=1104) (as:=[.v<|.lst<|rN sc]) (vs:=[.ref a]) (ls:=[]) (W:=vI s.heap) (locs:=[]) (rr:=[]) (s:=s) rfl aaq ZI
  ⟨λp c=>(nomatch c),λp c=>(nomatch c),λp c=>(nomatch c)⟩ (.val ⟨a,_,0,rfl,BL F,ck z,A _ _⟩ .nil) (λp c=>(nomatch c)) d
 refine bw S λJ f h=>?_;obtain⟨v,rfl,M,same,ext,_,i,t,_,_⟩:=h;exact⟨congrArg (λv=>Except.ok<|Flow.ret v) t,same,λb o e=>i.fz _ _<|ext.le.fz _ _<|BL e⟩
section
set_option maxHeartbeats 0
abbrev r0:OpenRow:=PySem.Challenge.rw_xm0541_01.row
theorem JC:(defOf q0 r0.name).isSome=true:=by kernel_rfl
theorem Ol:(defOf q0 r0.name).map (λx=>(x.1.params,x.1.body,x.1.scope))=P0.theDef r0.name:=by kernel_rfl
theorem Tv:(defOf q0 r0.name).map (λx=>kwWritten? x.1.params.kwonlyargs x.1.params.kw_defaults)=(defOf q0 r0.name).map (λx=>some x.2):=by kernel_rfl
theorem Si:(chainsOk q0&&opensWell P0&&(frees r0.toRowW&&r0.within.isEmpty))=true:=by kernel_rfl
theorem Mf(a:List WData):r0.toRowW.claim.post a (.bool true) a=true:=by kernel_rfl
theorem UZ{d:DefRec}{i:List (Str×jp)}(A:d.name=jv "law"):WalkO q0 kW (λ_ _=>True) (λ_ h=>YH h) r0.toRowW d i λf m=>PySem.call f m:=by
 intro w q p U V G Y fa o S cd O dV W X Z E hD l D v n as c u z k C;have M:=(pre_splitW c).1;have L:=(pre_splitW c).2;obtain⟨d',s,rfl,J,I⟩:=hasAllW_cons M;have:s=[]:=by cases s with|nil=>rfl|cons _ _=>cases I
 subst this;obtain⟨P,rfl,H⟩:=hasW_list J;have t:=So (holds_andW L).1;cases k with
 |cons y x=>
  cases x;cases y with
  |list F j=>
   rename_i a m;obtain⟨sc,e1,e2,N⟩:=NF H j;have cp:(63:Nat)<az:=by decide
   refine enter_call<|bw (LI (sc:=sc) Y G.T.nolimit G.T.g G.T.b (A▸l) F (by omega) (by omega) N) λr R h=>GoodW.toG ?_
   obtain⟨rfl,⟨h',Q,rfl⟩,e⟩:=h;exact⟨.inl ⟨_,.bool true,[],rfl,λ_=>rfl,.bool true,Mf _,unshared_nil⟩,e,rfl,D⟩
theorem wr0:(!r0.writes||r0.records.isEmpty)=true:=by kernel_rfl
theorem fin0(E:r0.toRowW.promised):PySem.Challenge.rw_xm0541_01.Holds:=by
 refine holds_law Iw λD=>?_;obtain⟨⟨d,kwd⟩,u⟩:=Pi.mp JC;have z:=Ol;have C:=Tv;rw[u]at z C;refine holds_open (r:=r0) (q:=q0) (loose:=kW) (Xt:=λ_=>true) (Yf:=λs=>YH s.heap) (Ya:=λ_=>True) (YP:=λ_ h=>YH h) (XP:=λ_ _=>True) (d:=d) (kwd:=kwd) (N:=9000) Wm ?a ?b ?c ?dd u z.symm (bn C) ?e wr0 D Si XT E (UZ<|defOf_name u)
 .exact λw s e=>of_eq_true e
 .exact λ_ _ _ y k=>y.keeps k
 .exact λ_ _=>trivial
 .exact λ_ _ _ _ _=>trivial
 .exact λ_ _=>recFacts_nil rfl
end
end Mine.Internal.Hd
end
section
set_option maxHeartbeats 0
open Mine.Internal Mine.Internal.Hd
theorem PySem.Challenge.cw_xm0541_01_holds : PySem.Challenge.rw_xm0541_01.Holds := by
 w_on
 refine fin0 ?_;show(PySem.Challenge.rw_xm0541_01.row).toRowW.promised
 w_witness2
end
end
