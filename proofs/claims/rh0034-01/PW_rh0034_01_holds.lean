import PyProof.Rows.All
import Wide.All
import OpenK.AllK
import Wide.FinOn
import Lean
import PySem.Challenge.RW_rh0034_01
set_option Elab.async false
set_option linter.all false
set_option genInjectivity false
set_option genSizeOf false
set_option bootstrap.genMatcherCode false
set_option compiler.extract_closed false
set_option tactic.hygienic false
set_option maxRecDepth 100000
noncomputable section
open Classical renaming byContradiction->aj
open Option renaming some_ne_none->L5,isSome_iff_exists->or,map_eq_some_iff->lX,rec->Fj,map->Fk,bind_eq_some_iff->iL
open Prod renaming fst->ai,snd->ak,ext->zY
open List renaming mem_append_right->iG,map_append->jX,mem_cons->bz,nodup_cons->dQ,mem_map->bF,append_assoc->dR,map_cons->gr,mem_map_of_mem->j6,lookup_cons->j7,perm_middle->e8,perm_append_comm_assoc->q8,mem_append_left->j8,length_cons->ze,perm_append_comm->gO,nil_append->L8,getElem?_eq_some_iff->gv,size_toArray->j9,all_cons->rd,range->kR,length_reverse->Mb,getElem?_eq_getElem->kT,mem_cons_of_mem->Mc,cons_append->mQ,map_map->jy,map_id->zj,length_map->bi,length_append->fF,zip_cons_cons->E2,nodup_nil->Mj,contains_eq_mem->Mk,all_eq_true->zq,append_nil->ou,mem_reverse->E4,mem_filter->ke,reverse_perm->E5,filter_sublist->zr,mem_append->iI,pairwise_map->E6,map_congr_left->tN,perm_append_singleton->Xv,mem_range->rh,replicate->gP,replicate_succ->Fc,flatten_cons->zw,take_append_drop->iJ,length_take->kX,take_of_length_le->e9,length_drop->wi,length_eq_zero_iff->Xx,drop_of_length_le->Mm,getElem_mem->Ff,mem_iff_getElem->Xy,length->aR,mem_singleton->bC,getElem?_toArray->Mn,getElem?_map->jd,contains_iff_mem->tP,take_add->zG,drop_drop->Fo,foldl_cons->wm,take_add_one->gS,drop->wn,mem_of_mem_drop->Mq,mem_of_mem_take->Ft,getElem?_eq_none->Mu,not_mem_nil->gT,map->bS,cons_ne_nil->Mw,mem_of_getElem?->kh,length_filter_le->rA,flatten_append->XK,isEmpty_iff->Fu,map_set->Mz,mem_of_find?_eq_some->XO,length_pos_iff->rC,getLastD_eq_getLast?->wq,getLast?_eq_getElem?->XQ,eq_nil_of_length_eq_zero->Fy,flatten->zS,length_replicate->wr,foldl_append->rD,take->wu,getD_eq_getElem?_getD->mV,length_range->oA,dropWhile_sublist->XU,getLastD->eC,filter->gx,map_id'->MR,mem_singleton_self->oH,length_singleton->FP,mem_of_getLast?->Yb,pairwise_append->M3,pairwise_cons->FR,Pairwise->wx,contains->M4,erase_cons_head->M5,length_erase_of_mem->Yg,length_pos_of_mem->M6,pairwise_lt_range->Yi,forall_mem_cons->t8
open Nat renaming lt_irrefl->jY,le_of_ble_eq_true->mP,le_trans->aZ,mul_le_mul->ER,zero_le->dx,not_lt->pT,le_succ->wd,le_refl->cR,ne_of_lt->tL,lt_succ_self->lU,le_of_lt->eP,min_eq_left->Fh,add_assoc->mT,add_sub_cancel'->tO,zero_add->rk,le_of_eq->iK,ne_of_gt->zB,lt_trans->zC,lt_of_lt_of_le->dr,add_lt_add_left->pY,add_lt_of_lt_sub'->XA,sub_pos_of_lt->zF,not_le->rl,add_le_add_left->kY,lt_of_le_of_lt->d7,sub_le->kg,add_sub_cancel_left->tR,lt_of_le_of_ne->Fn,add_right_comm->rm,succ_le_succ->je,lt_of_succ_lt->kZ,le_add_right->ij,add_le_of_le_sub'->XB,le_succ_of_le->zI,add_le_add_right->tS,add_lt_add->zJ,le_add_right_of_le->XC,sub_add_cancel->wk,sub_lt->rn,one_pos->pZ,add_comm->rp,pos_of_ne_zero->wl,lt_add_of_pos_right->Fp,lt_of_succ_lt_succ->XE,succ_pos->zM,le_sub_of_add_le->XH,add_zero->Mp,two_mul->Ms,add_lt_add_right->XI,lt_succ_of_le->zP,one_mul->MF,add_le_add->FA,ble_eq_true_of_le->MG,pow_le_pow_right->MH,le_add_left->FB,pow_succ->MI,le_of_dvd->MJ,le_mul_of_pos_left->XT,exists_eq_add_one_of_ne_zero->FE,add_sub_add_right->XV,le_of_succ_le_succ->XW,mul_le_mul_left->MK,mul_one->FM,mul_lt_mul_of_pos_left->Yd
open Pure renaming pure->aH
open List.Perm renaming trans->oj,cons->gM,swap->zb,append_left->rf,append_right->EW,refl->tQ,of_eq->zK
open Bool renaming or_eq_true->v9,and_eq_true->cO,and_eq_true_iff->q9,false_eq_true->zn,not_eq_true'->zo,eq_iff_iff->E7,false_ne_true->rz
open Int renaming natCast_mul->jx,toNat_of_nonneg->Xn,add_mul->Ma,one_mul->kS,add_assoc->wb,add_nonneg->Me,ediv_nonneg->EX,le_refl->kU,eq_ofNat_of_zero_le->mS,le_antisymm->zy,lt_iff_le_and_ne->rq,le_total->Mv,le_trans->bb,lt_trans->jf,add_comm->zQ,toNat_sub->zR,fdiv->bg,toNat->bY,gcd->bp,le_of_lt->bZ,natAbs_natCast->oz,natAbs->cq,fmod->p5,fmod_nonneg_of_pos->MB,fmod_lt_of_pos->Fz,fmod_eq_emod_of_nonneg->MC,add_sub_cancel->MD,natCast_nonneg->jz,ofNat_le->dH,lt_of_le_of_lt->oB,sub_le_self->ME,ofNat_lt->mX,natAbs_mul->fH,natAbs_add_le->FC,natAbs_neg->jg,sub_eq_add_neg->rE,natAbs_of_nonneg->p6,mul_fdiv_add_fmod->XR,mul_le_mul_of_nonneg_right->fI,mul_neg->k8,mul_add->FD,lt_or_gt_of_ne->oE,gcd_eq_zero_iff->XS,zero_sub->tU,mul_ne_zero->bH,mul_comm->bT,add_right_neg->FF,pow_zero->fp,pow_succ->ki,sub_nonneg_of_le->XX,not_le->l8,add_le_add_left->ML,le_of_eq->oF,zero_mul->fV,mul_zero->cP,sub_zero->zT,add_zero->iM,pow_one->oG,gcd_zero_left->MM,sign->gw,sign_eq_neg_one_of_neg->FG,sign_eq_one_of_pos->FH,mul_fdiv_cancel->XY,mul_one->dh,dvd_refl->FI,dvd_trans->rF,gcd_dvd_left->zU,gcd_dvd_right->zV,natAbs_dvd_natAbs->XZ,fdiv_one->MN,mul_eq_zero->fq,mul_fdiv_cancel_left->FJ,mul_fmod_right->MO,natAbs_dvd->MQ,gcd_comm->FK,eq_of_mul_eq_mul_right->X0,lt_trichotomy->gU,mul_pos_of_neg_of_neg->X7,mul_neg_of_pos_of_neg->tV,gcd_mul_left->FL,eq_of_mul_eq_mul_left->k9,mul_assoc->eK,mul_left_comm->tX,pow_pos->FN,one_pos->p7,mul_pos->da,zero_add->lg,fdiv_eq_ediv_of_nonneg->MS,lt_of_mul_lt_mul_left->MT,lt_of_lt_of_le->gy,mul_le_mul_of_nonneg_left->gA,mul_nonneg->fW,neg_lt_of_neg_lt->X8,le_natAbs->tY,ofNat_natAbs_of_nonpos->X9,sub_pos_of_lt->wv,neg_neg->tZ,add_lt_add_right->MU,sub_neg_of_lt->MV,not_lt->fX,sub_eq_zero->MW,ne_of_gt->fJ,sub_lt_sub_right->MX,mul_lt_mul_of_pos_left->MY,lt_add_of_pos_right->rG,lt_asymm->rH,natCast_pow->zW,natCast_pos->FO,natAbs_pos->zX,pos_of_mul_pos_right->t5,two_mul->rI,le_add_of_nonneg_right->t6,neg_mul->MZ,mul_le_mul_left->Yc,le_of_mul_le_mul_left->FQ,sub_self->kj,lt_irrefl->zZ,mul_le_mul->rJ,le_of_lt_add_one->FS,dvd_of_emod_eq_zero->ww,sub_lt_sub_left->Ye,le_of_dvd->t7,add_pos_of_pos_of_nonneg->M7,lt_of_add_lt_add_left->Yj,le_of_add_le_add_left->Yk
open Option.some renaming inj->tJ
open Ne renaming symm->ot
open False renaming elim->rg
open MonadState renaming get->pW
open Array renaming getElem?_toList->Fl,toList_append->lY,toList_push->zH,toList_reverse->XD,toList_setIfInBounds->XF,length_toList->XG,perm_iff_toList_perm->Fs
open Prod.mk renaming inj->ik
open Eq renaming mpr->bP
open List.Pairwise renaming filter->Yh
open PySem renaming Addr->aw,Obj->bn,Str->ag,Value->an,Heap->bo,sizeLine->bO,Program->jV,mainGlobals->q6,builtinsNs->y9,bootBuiltins->L6,World->n9,model->lS,Around->gq,Shared->bt,Sem->bX,wpAny->cW,wpAny_pure->dq,wpAny_mono->eg,wpAny_bind->bN,Pos->ax,standAt->mO,wpAny_standAt->vZ,holding->j5,wpAny_holding->tD,rule->og,wpAny_rule->EO,sysModules->EP,tupleKind->v4,intKind->iH,Env->c6,Stmt->aW,execs->oh,wpAny_Name->v5,wpAny_loadName_local->EQ,wpAny_loadName_cell->L7,storeName->v6,bindName->v7,Operator->eJ,CmpOp->gu,compareOp->ES,behindInMarks->on,arm_allTrue_cons->ET,starEach->fo,spliced->oq,backTo->fT,wpAny_newObj_type->tF,getItem->zf,sizeLine_eq->eA,seqIndex?->zg,slot_list_getitem->L9,call->fU,callWith->EU,letOwnedTupleGo->tG,pyNext->tH,pyIter->wa,wpAny_pyNext_list_item->Xp,wpAny_pyNext_list_end->Xq,rawInt->tI,wpAny_pyIter_revIter->Xr,wpAny_pyIter_list->Md,assignInOrder->zi,assignEach->lT,unpackItems->EY,swapsWith->we,foldedSetIterable->Mf,swappedStores->wg,arm_exec_Assign->zk,eval->EZ,assignStores->Mg,assignAll->E0,assign->kW,setItem->E1,wpAny_call_entry->Mh,NameKind->d6,DefRec->kd,cellsFrom->zm,codeAny->zp,Scope->b9,compTurn->ox,Comprehension->pU,richCompare_meets_room->zv,call_meets->Fe,wpAny_isNot_other->zA,unsupported->Mo,foldedForSure->Mx,constantsAlone->My,Arg->Fw,treeTable->Fx,importedModules->MA
open PyProof.Rows renaming recsOf->jW,getItem_tuple->Xo,subscriptTail->zh,IntsAre->jc,SortSt->ig,Keyed->mU,failedOf->wj,arrOf->gQ,pendingOf->c9,wpS_pure->kf,wpS_bind->gR,wpS_mono->pV,wpS_get->pX,wpS_modify->zE,elem'->fe,mergeAt'->zL,setPending->Fq,reverseSlice'->zN,binarySort'->Mr,minRun'->zO,seqObj->p4
open PySem.Heap renaming lt_size->gm,get?_push_of_some->jZ,get?_push_size->tC,get?_update_self->Mi
open PySem.Builtin.Int renaming intBits->v8
open PySem.Builtin renaming divisionGoesByPylong->Xm
open PySem.Builtin.Range renaming rangeSize->kc,small->Xs
open PySem.Expr renaming Tuple->mR
open PySem.Flow renaming next->tM
open PySem.Obj renaming mapSeq->zl
open PySem.NameKind renaming cell->wh,free->lV
open PySem.Env renaming kindOf->zt
open PySem.SeqAt.EqAt renaming int_int->E8
open PySem.F renaming slot_list_ne->E9,entry_list_ne->Fa,args_list_ne_2->Fb,slot_list_getattribute->Mt
open PySem.SeqAt renaming list_ne_lengthsAt->Xw
open PySem.Builtin.List renaming listFitsIndex->Ml
open PySem.Value renaming none->zx,int->Fg,ref->wp
open PySem.Heap.SameBut renaming update->Xz
open PySem.Around renaming under_plainId->XJ
open PySem.Challenge renaming pw_rh0034_01->tT,rw_rh0034_01->rB
open PySem.W.Fast renaming te14082659384304107361->XM,te14364793385576792824->XN
open PySem.W renaming looseW->lZ
open PySem.Str renaming ofString->al
open PySem PySem.W PySem.Calls PyProof.Rows
namespace Mine.Internal
local macro_rules | `(tactic| lia) => `(tactic| lia -abstractProof)
local macro_rules | `(tactic| trivial) => `(tactic| first | assumption | exact bZ (by assumption) | exact eP (by assumption) | exact pT.mp (by assumption) | exact fX.mp (by assumption) | exact rl.mp (by assumption) | exact l8.mp (by assumption) | exact aZ (by assumption) (by decide) | exact bb (by decide) (by assumption) | exact gy (by decide) (by assumption) | exact jz _ | exact dx _ | exact fJ (by assumption) | exact mX.mpr (by assumption) | exact dH.mpr (by assumption) | lia | omega)
section
noncomputable abbrev PM:=aw->Option bn
noncomputable abbrev av:=List (aw×bn)
inductive T where
 |none
 |bool (b:Bool)
 |int (i:Int)
 |str (x:ag)
 |list (ts:List T)
 |tup (ts:List T)
def cj(o:bn)(vs:List an):Prop:=∃n,o={cls:=.type "list",dict:=none,data:=.seq vs.toArray n,slots:=#[]}
def iS(o:bn)(vs:List an):Prop:=o.cls= .type "tuple"/\∃n,o.data= .seq vs.toArray n
theorem cj.isList{h:bo}{a:aw}{o:bn}{vs:List an}(x:cj o vs)(e:h.get? a=some o):h.IsList a vs.toArray:=by obtain⟨n,rfl⟩:=x;exact⟨_,e,rfl,n,rfl⟩
theorem cj.isL{h:bo}{a:aw}{o:bn}{vs:List an}(x:cj o vs)(e:h.get? a=some o): ∃n,IsL h a vs.toArray n:=by obtain⟨n,rfl⟩:=x;exact⟨n,e⟩
theorem iS.isTup{h:bo}{a:aw}{o:bn}{vs:List an}(x:iS o vs)(e:h.get? a=some o):IsTup h a vs.toArray:=⟨o,e,x.1,x.2⟩
theorem cj.mk(vs:List an)(n:Nat):cj {cls:=.type "list",data:=.seq vs.toArray n} vs:=⟨n,rfl⟩
theorem iS.mk(vs:List an)(n:Nat):iS {cls:=.type "tuple",data:=.seq vs.toArray n} vs:=⟨rfl,n,rfl⟩
mutual
def VR(H:PM):T->an->Prop
 | .none,v=>v= .none
 | .bool b,v=>v= .bool b
 | .int i,v=>∃t,v= .int i t
 | .str x,v=>∃t,v= .str x t
 | .list ts,v=>∃a vs o,v= .ref a/\H a=some o/\cj o vs/\ts.length<=bO/\aF H ts vs
 | .tup ts,v=>∃a vs o,v= .ref a/\H a=some o/\iS o vs/\aF H ts vs
def aF(H:PM):List T->List an->Prop
 | [],vs=>vs=[]
 |t::ts,vs=>∃v bA,vs=v::bA/\VR H t v/\aF H ts bA
end
def Le(H H':PM):Prop:=∀a o,H a=some o->H' a=some o
theorem Le.refl(H:PM):Le H H:=λa a e=>e
theorem Le.trans{d c b:PM}(x:Le d c)(y:Le c b):Le d b:=λa o e=>y a o (x a o e)
theorem VR.mono{H H':PM}(hl:Le H H'){t:T}: ∀{v:an},VR H t v->VR H' t v:=
 @(T.rec (motive_1:=λt=>∀v,VR H t v->VR H' t v) (motive_2:=λts=>∀vs,aF H ts vs->aF H' ts vs) (λb h=>h) (λb b h=>h) (λb b h=>h) (λb b h=>h)
  (λts c v h=>by
   refine aj λd=>?_
   obtain⟨a,vs,o,e,ho,hk,hz,hs⟩:=h
   exact d ⟨a,vs,o,e,hl _ _ ho,hk,hz,c vs hs⟩)
  (λts c v h=>by
   refine aj λd=>?_
   obtain⟨a,vs,o,e,ho,hk,hs⟩:=h
   exact d ⟨a,vs,o,e,hl _ _ ho,hk,c vs hs⟩)
  (λb h=>h) (λt ts it bl vs h=>by
   obtain⟨v,bA,e,h1,h2⟩:=h
   exact⟨v,bA,e,it v h1,bl bA h2⟩) t)
theorem aF.el{H:PM}{C:List T->List an->Prop}(h0:C [] [])(h1: ∀t ts v vs,VR H t v->aF H ts vs->C ts vs->C (t::ts) (v::vs)){ts:List T}: ∀{vs:List an},aF H ts vs->C ts vs:=by
 induction ts with
 |nil=>exact λh=>(show _=[]from h)▸h0
 |cons t ts c=>
  intro vs h
  obtain⟨v,bA,rfl,a,b⟩:=h
  exact h1 _ _ _ _ a b (c b)
theorem aF.nil{H:PM}:aF H [] []:=rfl
theorem aF.cons{H:PM}{t:T}{ts:List T}{v:an}{vs:List an}(h:VR H t v)(hs:aF H ts vs):aF H (t::ts) (v::vs):=⟨v,vs,rfl,h,hs⟩
theorem aF.mono{H H':PM}(hl:Le H H'){ts:List T}{vs:List an}:aF H ts vs->aF H' ts vs:=aF.el aF.nil λa a a a h a b=>aF.cons (h.mono hl) b
theorem aF.length{H:PM}{ts:List T}{vs:List an}:aF H ts vs->vs.length=ts.length:=aF.el (C:=λts vs=>vs.length=ts.length) rfl λa a a a a a b=>congrArg Nat.succ b
theorem aF.get{H:PM}{ts:List T}{vs:List an}{i:Nat}{t:T}(h:aF H ts vs):ts[i]? =some t->∃v,vs[i]? =some v/\VR H t v:=
 aF.el (C:=λts vs=>∀i:Nat,ts[i]? =some t->∃v,vs[i]? =some v/\VR H t v) (λi e=>(L5 t (List.getElem?_nil.symm.trans e).symm).elim) (λu ts v vs h1 z_ a i e=>by
  induction i with
  |zero=>cases e;exact⟨v,rfl,h1⟩
  |succ i=>exact a i e) h i
theorem aF.append{H:PM}{ts ts':List T}{vs bA:List an}(h:aF H ts vs)(h':aF H ts' bA):aF H (ts++ts') (vs++bA):=
 aF.el (C:=λts vs=>aF H (ts++ts') (vs++bA)) h' (λa a a a h1 a b=>aF.cons h1 b) h
theorem aF.split{H:PM}{ts ts':List T}: ∀{vs:List an},aF H (ts++ts') vs->∃v1 v2,vs=v1++v2/\aF H ts v1/\aF H ts' v2:=by
 induction ts with
 |nil=>exact λ{vs} h=>⟨[],vs,rfl,rfl,h⟩
 |cons t ts a=>
  intro vs h
  refine aj λb=>?_
  obtain⟨v,bA,rfl,h1,h2⟩:=h
  obtain⟨v1,v2,rfl,h3,h4⟩:=a h2
  exact b ⟨v::v1,v2,rfl,aF.cons h1 h3,h4⟩
theorem aF.set{H:PM}{t:T}{v:an}(b:VR H t v){ts:List T}{vs:List an}{i:Nat}(h:aF H ts vs):aF H (ts.set i t) (vs.set i v):=
 aF.el (C:=λts vs=>∀i,aF H (ts.set i t) (vs.set i v)) (λz_=>aF.nil) (λu ts w vs h1 h2 a i=>by
  induction i with
  |zero=>exact aF.cons b h2
  |succ i=>exact aF.cons h1 (a i)) h i
structure qn(p:jV)(loose:List ag)(mg mb:ag->Option an)(h:bo):Prop where
 g:h.Ns q6 mg
 b:h.Ns y9 mb
 nolimit:h.NoLimit
 fn: ∀d∈jW p,∃a o pm code doc,mg d.name=some (.ref a)/\h.get? a=some o/\o.data= .func (docDef d.name d.params d.body d.scope pm code doc)/\h.CodeRec code d.name
 const: ∀x d,valOf p x=some d->∃v,mg x=some v/\∀h':bo,Reads h' v d []
 free: ∀x,x ∉ startupNames->x ∉ loose->x ∉ (jW p).map (·.name)->x ∉ (litsOf p).map (·.1)->x ∉ (clssOf p loose).map (·.name)->mg x=none
 builtins: ∀x:ag,x≠"__name__"->mb x=L6 x
 bmain: ∃bm ob,mg "__builtins__"=some (.ref bm)/\bm≠y9/\h.get? bm=some ob/\ob.cls= .type "module"/\ob.dict=some y9/\ob.data= .plain
theorem qn.of{p:jV}{loose:List ag}{a:ExcName->Option an}{mg mb:ag->Option an}{h:bo}(T:Top p loose a mg mb h):qn p loose mg mb h:=
 ⟨T.g,T.b,T.nolimit,T.fn,T.const,T.free,T.builtins,T.bmain⟩
structure aK where
 prog:jV
 w:n9
 p:jV
 loose:List ag
 mg:ag->Option an
 mb:ag->Option an
 hB:bo
 top:qn p loose mg mb hB
noncomputable abbrev aK.M(G:aK):Model:=lS G.prog G.w
structure a5(G:aK)(h:bo)(H:PM)(led:av):Prop where
 base: ∀a o,G.hB.get? a=some o->H a=some o
 frz: ∀a o,H a=some o->h.get? a=some o
 own: ∀p∈led,h.get? p.1=some p.2/\H p.1=none
 nd:(led.map ai).Nodup
variable {G:aK}
theorem a5.perm{h:bo}{H:PM}{l l':av}(S:a5 G h H l)(hp:l.Perm l'):a5 G h H l':=
 ⟨S.base,S.frz,λp a=>S.own p (hp.mem_iff.mpr a),(hp.map ai).nodup_iff.mp S.nd⟩
theorem a5.drop{h:bo}{H:PM}{l l':av}(S:a5 G h H (l++l')):a5 G h H l':=
 ⟨S.base,S.frz,λp hp=>S.own p (iG _ hp),by have :=S.nd;simp only[jX]at this;exact(List.nodup_append.mp this).2.1⟩
theorem a5.keep{h h':bo}{H:PM}{l:av}(S:a5 G h H l)(hk: ∀b o,h.get? b=some o->h'.get? b=some o):a5 G h' H l:=
 ⟨S.base,λa o e=>hk _ _ (S.frz a o e),λp hp=>⟨hk _ _ (S.own p hp).1,(S.own p hp).2⟩,S.nd⟩
theorem a5.alloc{h:bo}{H:PM}{l:av}(S:a5 G h H l)(o:bn)(hf:o.isFreed=false):a5 G (h.push o) H ((h.objs.size,o)::l):=by
 have hn:H h.objs.size=none:=by
  cases e:H h.objs.size with
  |none=>rfl
  |some o'=>exact absurd (gm (S.frz _ _ e)) (jY _)
 refine⟨S.base,λa o' e=>jZ o (S.frz a o' e),λp hp=>?_,?_⟩
 ·rcases bz.mp hp with rfl|hp
  ·exact⟨tC _ hf,hn⟩
  ·exact⟨jZ o (S.own p hp).1,(S.own p hp).2⟩
 ·refine dQ.mpr ⟨λhm=>?_,S.nd⟩
  obtain⟨p,hp,e⟩:=bF.mp hm
  have :=gm (S.own p hp).1
  rw[e]at this
  exact absurd this (jY _)
theorem a5.freeze{h:bo}{H:PM}{a:aw}{o:bn}{l:av}(S:a5 G h H ((a,o)::l)):
  ∃H',Le H H'/\H' a=some o/\a5 G h H' l:=by
 have hn:=(S.own (a,o) (.head _)).2
 have ha:=(S.own (a,o) (.head _)).1
 dsimp only at hn ha
 have hle:Le H (λb=>if b=a then some o else H b):=λb ob e=>by
  show(if b=a then some o else H b)=some ob
  by_cases hb:b=a
  ·subst hb;rw[hn]at e;cases e
  ·rw[if_neg hb];exact e
 refine⟨_,hle,by simp,λb ob e=>hle _ _ (S.base b ob e),λb ob e=>?_,λp hp=>?_,?_⟩
 ·have e:(if b=a then some o else H b)=some ob:=e
  by_cases hb:b=a
  ·subst hb;rw[if_pos rfl]at e;cases e;exact ha
  ·rw[if_neg hb]at e;exact S.frz b ob e
 ·have c:p.1≠a:=λe=>by
   have :=(dQ.mp S.nd).1
   exact this (bF.mpr ⟨p,hp,e⟩)
  exact⟨(S.own p (.tail _ hp)).1,by rw[if_neg c];exact(S.own p (.tail _ hp)).2⟩
 ·exact(dQ.mp S.nd).2
theorem a5.write{h h':bo}{H:PM}{a:aw}{o o':bn}{l:av}(S:a5 G h H ((a,o)::l))(hs: ∀b ob,b≠a->h.get? b=some ob->h'.get? b=some ob)(ho:h'.get? a=some o'):
  a5 G h' H ((a,o')::l):=by
 have hn:=(S.own (a,o) (.head _)).2
 refine⟨S.base,λb ob e=>hs b ob (λhb=>?_) (S.frz b ob e),λp hp=>?_,S.nd⟩
 ·subst hb;dsimp only at hn;rw[hn]at e;cases e
 ·rcases bz.mp hp with rfl|hp
  ·exact⟨ho,hn⟩
  ·have c:p.1≠a:=λe=>(dQ.mp S.nd).1 (bF.mpr ⟨p,hp,e⟩)
   exact⟨hs _ _ c (S.own p (.tail _ hp)).1,(S.own p (.tail _ hp)).2⟩
def Ok(A:gq)(d:Nat):Prop:=A.handled=none/\A.depth+d+120<recursionLimit/\A.units+8*d+16<cLine
inductive RP(G:aK)(s:bt)(fl:av)(H:PM)(Q:PM->av->Prop)(s':bt):Prop
 |mk (h':bo) (aU:Nat) (H':PM) (bV:av) (e:s'={s with heap:=h',toks:=aU}) (le:Le H H') (sp:a5 G h' H' (bV++fl)) (q:Q H' bV)
def ae(G:aK)(d:Nat){α:Type}(H:PM)(led:av)(t:bX α)(Q:α->PM->av->Prop):Prop:=
 ∀(A:gq) (s:bt) (h:bo) (c:Nat) (fl:av),Ok A d->a5 G h H (led++fl)->
  cW G.M A t (λa s'=>RP G s fl H (Q a) s') (λb b=>False) {s with heap:=h,toks:=c}
section
variable {d:Nat} {α β:Type} {H:PM} {led:av}
theorem ae.pure{a:α}{Q:α->PM->av->Prop}(h:Q a H led):ae G d H led (pure a) Q:=
 λb b h' aU b b S=>dq ⟨h',aU,H,led,rfl,.refl _,S,h⟩
theorem ae.mono{t:bX α}{Q Q':α->PM->av->Prop}(h:ae G d H led t Q)(hq: ∀a H' l,Le H H'->Q a H' l->Q' a H' l):ae G d H led t Q':=
 λA s g f fl ok S=>eg (h A s g f fl ok S) (λa s' b=>by obtain⟨h',aU,H',l,e,le,S',q⟩:=b;exact(⟨h',aU,H',l,e,le,S',hq _ _ _ le q⟩)) λc c x=>x
theorem ae.bind{m:bX α}{f:α->bX β}{Q:β->PM->av->Prop}(h:ae G d H led m λa H' l=>ae G d H' l (f a) Q):ae G d H led (m>>=f) Q:=
 λA s k i fl ok S=>bN (eg (h A s k i fl ok S) (λa s' c=>by obtain⟨h',aU,H',l,e,le,S',q⟩:=c;exact(by
  subst e
  exact eg (q A s h' aU fl ok S') (λb pJ c=>by obtain⟨h2,j,H2,l2,e2,n,S2,q2⟩:=c;exact(⟨h2,j,H2,l2,e2,le.trans n,S2,q2⟩)) λg g x=>x)) λg g x=>x)
theorem ae.frame{t:bX α}{Q:α->PM->av->Prop}{fr:av}(h:ae G d H led t Q):ae G d H (led++fr) t λa H' l=>∃l',l=l'++fr/\Q a H' l':=
 λA s g f fl ok S=>eg (h A s g f (fr++fl) ok (by rw[← dR];exact S)) (λa s' b=>by obtain⟨h',aU,H',l,e,le,S',q⟩:=b;exact(⟨h',aU,H',l++fr,e,le,by simp only[dR];exact S',l,rfl,q⟩)) λc c x=>x
theorem ae.perm{t:bX α}{Q:α->PM->av->Prop}{bV:av}(h:ae G d H bV t Q)(hp:led.Perm bV):ae G d H led t Q:=
 λA s b a fl ok S=>h A s b a fl ok (S.perm (hp.append_right fl))
theorem ae.post{t:bX α}{Q Q':α->PM->av->Prop}(h:ae G d H led t Q)(hq: ∀a H' l,Le H H'->Q a H' l->∃l1 l2,l.Perm (l1++l2)/\Q' a H' l2):ae G d H led t Q':=
 λA s g c fl ok S=>eg (h A s g c fl ok S) (λa s' ⟨h',aU,H',l,e,le,S',q⟩=>by
  refine aj λi=>?_
  obtain⟨l1,l2,hp,f⟩:=hq _ _ _ le q
  refine i ?_
  refine⟨h',aU,H',l2,e,le,a5.drop (l:=l1) ?_,f⟩
  simp only[← dR]
  exact S'.perm (hp.append_right fl)) λb b x=>x
theorem ae.withBase{t:bX α}{Q:α->PM->av->Prop}(h:(∀a o,G.hB.get? a=some o->H a=some o)->ae G d H led t Q):ae G d H led t Q:=
 λA s c b fl ok S=>h S.base A s c b fl ok S
theorem ae.freeze{t:bX α}{Q:α->PM->av->Prop}{a:aw}{o:bn}(h: ∀H',Le H H'->H' a=some o->ae G d H' led t Q):ae G d H ((a,o)::led) t Q:=
 λA s i f fl ok S=>by
  refine aj λj=>?_
  obtain⟨H',le,e,S'⟩:=a5.freeze S
  refine j ?_
  exact eg (h H' le e A s i f fl ok S') (λb pJ ⟨h2,g,H2,l2,e2,k,S2,q2⟩=>⟨h2,g,H2,l2,e2,le.trans k,S2,q2⟩) λc c x=>x
theorem ae.of_pure{a:α}{t:bX α}{Q:α->PM->av->Prop}(e:t=aH a)(h:Q a H led):ae G d H led t Q:=by rw[e];exact ae.pure h
theorem ae.standAt{pos:ax}{Q:Unit->PM->av->Prop}(h:Q () H led):ae G d H led (mO pos) Q:=λa a h' aU a a S=>vZ ⟨h',aU,H,led,rfl,.refl _,S,h⟩
theorem ae.holding{vs:List an}{m:bX α}{Q:α->PM->av->Prop}(h:ae G d H led m Q):ae G d H led (j5 vs m) Q:=λA s b a fl ok S=>tD (h A s b a fl ok S)
theorem ae.rule{tag:String}{Q:Unit->PM->av->Prop}(h:Q () H led):ae G d H led (og tag) Q:=λa a h' aU a a S=>EO ⟨h',aU,H,led,rfl,.refl _,S,h⟩
end
end
section
variable {G:aK}
inductive Slot where
 |any
 |val (t:T)
 |own (a:aw) (ts:List T)
 |dct (a:aw) (ks:List (Int×Int))
noncomputable abbrev cL:=List (ag×Slot)
inductive lv(H:PM)(d:aw)(o:bn)(ks:List (Int×Int)):Prop
 |mk (es:Array DictEntry) (ep:Nat) (xs:List (List Int×aw×an)) (hd:(d==EP)=false) (hx:o.ExactDict) (mE:o.data= .dict es ep) (he: ∀prog w,es.toList=xs.map (entryOfKey (v4 (iH prog w))))
  (hk: ∀x∈xs,∃a b,x.1=[a,b]/\VR H (.tup [.int a,.int b]) (.ref x.2.1)) (hn:(xs.map (·.1)).Nodup) (lG:xs.map (·.1)=ks.map λp=>[p.1,p.2])
theorem lv.mono{H H':PM}(hl:Le H H'){d:aw}{o:bn}{ks:List (Int×Int)}(h:lv H d o ks):lv H' d o ks:=by
 obtain⟨es,ep,xs,hd,hx,mE,he,hk,hn,lG⟩:=h
 exact⟨es,ep,xs,hd,hx,mE,he,λx hx=>by obtain⟨a,b,e,r⟩:=hk x hx;exact⟨a,b,e,r.mono hl⟩,hn,lG⟩
inductive OI(H:PM)(a:aw)(ts:List T)(vo:Option an)(l:av):Prop
 |mk (vs:List an) (o:bn) (e:vo=some (.ref a)) (r:aF H ts vs) (lo:cj o vs) (z:ts.length<=bO) (el:l=[(a,o)])
inductive WV(H:PM)(a:aw)(ks:List (Int×Int))(vo:Option an)(l:av):Prop
 |mk (o:bn) (e:vo=some (.ref a)) (d:lv H a o ks) (el:l=[(a,o)])
def gf(H:PM):Slot->Option an->av->Prop
 | .any,_,l=>l=[]
 | .val t,vo,l=>(∃v,vo=some v/\VR H t v)/\l=[]
 | .own a ts,vo,l=>OI H a ts vo l
 | .dct a ks,vo,l=>WV H a ks vo l
inductive VY(A B:av->Prop)(l:av):Prop
 |mk (l1 l2:av) (e:l=l1++l2) (a:A l1) (b:B l2)
inductive Vk(x y:ag)(c:aw)(A:Option an->av->Prop)(B:av->Prop)(l:av):Prop
 |mk (e0:x=y) (oc:bn) (vo:Option an) (l1 l2:av) (d:oc.data= .cell vo) (e:l=(c,oc)::(l1++l2)) (a:A vo l1) (b:B l2)
def LR(H:PM)(m:ag->Option an):cL->av->Prop
 | [],l=>l=[]
 |(x,sl)::σ,l=>VY (gf H sl (m x)) (LR H m σ) l
def CR(H:PM):List (ag×aw)->cL->av->Prop
 | [],[],l=>l=[]
 |(x,c)::ca,(y,sl)::κ,l=>Vk x y c (gf H sl) (CR H ca κ) l
 |_,_,_=>False
structure St where
 l:cL
 c:cL
structure Fm where
 env:c6
 ca:List (ag×aw)
 fx:List (ag×an)
def jO(o:bn)(m:ag->Option an):Prop:=∃es ep,o.data= .dict es ep/\StrKeys es/\∀name,nsFind es name=m name
theorem jO.ns{h:bo}{L:aw}{o:bn}{m}(n:jO o m)(e:h.get? L=some o):h.Ns L m:=let⟨es,ep,d,k,f⟩:=n;⟨o,es,ep,e,d,k,f⟩
theorem jO.of{h:bo}{L:aw}{m}(n:h.Ns L m): ∃o,h.get? L=some o/\jO o m:=let⟨o,es,ep,e,d,k,f⟩:=n;⟨o,e,es,ep,d,k,f⟩
def wB(env:c6)(σ:cL):Prop:=∀p∈σ,env.kindOf p.1=some .local/\(p.1==("__debug__":ag))=false
structure Fm.Wf(Γ:Fm):Prop where
 kind:Γ.env.scope.kind= .function
 glob:Γ.env.globals=q6
 blt:Γ.env.builtins=y9
 cells: ∀x c,Γ.ca.lookup x=some c->(Γ.env.kindOf x=some .cell\/Γ.env.kindOf x=some .free)->Γ.env.cells.lookup x=some c
 nd:(Γ.ca.map ai).Nodup
inductive Q6(Γ:Fm)(S:St)(H:PM)(led:av):Prop
 |mk (oL:bn) (m:ag->Option an) (lo lc:av) (e:led=(Γ.env.locals,oL)::(lo++lc)) (n:jO oL m) (l:LR H m S.l lo) (c:CR H Γ.ca S.c lc) (f: ∀p∈Γ.fx,m p.1=some p.2)
structure bd(Γ:Fm)(S:St)(H:PM)(led:av):Prop where
 wf:Γ.Wf
 keys:wB Γ.env S.l
 nd:(S.l.map ai).Nodup
 led:Q6 Γ S H led
 dj: ∀p∈Γ.fx,p.1 ∉ S.l.map ai
theorem gf.mono{H H':PM}(hl:Le H H'){sl:Slot}{vo:Option an}{l:av}(h:gf H sl vo l):gf H' sl vo l:=by
 induction sl with
 |any=>exact h
 |val t=>exact⟨let⟨v,e,r⟩:=h.1;⟨v,e,r.mono hl⟩,h.2⟩
 |own a ts=>exact let⟨vs,o,e,r,k,z,e2⟩:=h;⟨vs,o,e,r.mono hl,k,z,e2⟩
 |dct a ks=>obtain⟨o,e,r,e2⟩:=h;exact⟨o,e,r.mono hl,e2⟩
theorem LR.mono{H H':PM}{m}(hl:Le H H'): ∀{σ:cL} {l:av},LR H m σ l->LR H' m σ l
 | [],_,h=>h
 |(x,sl)::σ,l,h=>let⟨l1,l2,e,a,b⟩:=h;⟨l1,l2,e,a.mono hl,LR.mono hl b⟩
theorem CR.mono{H H':PM}(hl:Le H H'): ∀{ca:List (ag×aw)} {κ:cL} {l:av},CR H ca κ l->CR H' ca κ l
 | [],[],_,h=>h
 |(x,c)::ca,(y,sl)::κ,l,h=>let⟨e0,oc,vo,l1,l2,e,e2,a,b⟩:=h;⟨e0,oc,vo,l1,l2,e,e2,a.mono hl,CR.mono hl b⟩
 | [],_::_,_,h=>h.elim
 |_::_,[],_,h=>h.elim
theorem bd.mono{Γ:Fm}{S:St}{H H':PM}{led:av}(hl:Le H H')(h:bd Γ S H led):bd Γ S H' led:=
 ⟨h.wf,h.keys,h.nd,let⟨oL,m,lo,lc,e,a,b,c,f⟩:=h.led;⟨oL,m,lo,lc,e,a,b.mono hl,c.mono hl,f⟩,h.dj⟩
inductive At:cL->ag->Slot->Slot->cL->Prop
 |head {x s s' σ}:At ((x,s)::σ) x s s' ((x,s')::σ)
 |tail {x s s' σ σ' p}:At σ x s s' σ'->At (p::σ) x s s' (p::σ')
theorem At.keys{σ σ':cL}{x:ag}{s s':Slot}(h:At σ x s s' σ'):σ'.map ai=σ.map ai:=by
 induction h with
 |head=>rfl
 |tail _ a=>simp only[gr,a]
theorem At.mem{σ σ':cL}{x:ag}{s s':Slot}(h:At σ x s s' σ'):(x,s)∈σ:=by
 induction h with
 |head=>exact .head _
 |tail _ a=>exact .tail _ a
theorem wB.at{env:c6}{σ σ':cL}{x:ag}{s s':Slot}(g:wB env σ)(h:At σ x s s' σ'):wB env σ':=by
 intro p hp
 have :p.1∈σ'.map ai:=j6 hp
 rw[h.keys]at this
 obtain⟨q,hq,e⟩:=bF.mp this
 rw[← e];exact g q hq
inductive RD(H:PM)(m:ag->Option an)(σ:cL)(x:ag)(s:Slot)(l:av):Prop
 |mk (l1 l2 l3:av) (e:l=l1++l2++l3) (hs:gf H s (m x) l2) (k: ∀s' σ',At σ x s s' σ'->∀H' m' dN,Le H H'->(∀y,y≠x->m' y=m y)->gf H' s' (m' x) dN->LR H' m' σ' (l1++dN++l3))
inductive PN(H:PM)(ca:List (ag×aw))(σ:cL)(x:ag)(s:Slot)(l:av):Prop
 |mk (c:aw) (oc:bn) (vo:Option an) (l1 l2 l3:av) (hc:ca.lookup x=some c) (hd:oc.data= .cell vo) (e:l=l1++(c,oc)::l2++l3) (hs:gf H s vo l2) (k: ∀s' σ',At σ x s s' σ'->∀H' fA lH dN,Le H H'->fA.data= .cell lH->gf H' s' lH dN->CR H' ca σ' (l1++(c,fA)::dN++l3))
theorem LR.focus{H:PM}{m:ag->Option an}{σ n:cL}{x:ag}{s i:Slot}(h:At σ x s i n):(σ.map ai).Nodup->∀{l:av},LR H m σ l->
  RD H m σ x s l:=by
 induction h with
 | @head x s i σ=>
  intro nd l hl
  obtain⟨l1,l2,e,a,b⟩:=hl
  have hx:x ∉ σ.map ai:=(dQ.mp nd).1
  refine⟨[],l1,l2,by simpa using e,a,λs' σ' c H' m' dN le hm hs=>?_⟩
  cases c with
  |tail c=>exact absurd (j6 c.mem) hx
  |head=>
   refine⟨dN,l2,rfl,hs,?_⟩
   clear e a nd
   induction σ generalizing l2 with
   |nil=>exact b
   |cons p σ f=>
    obtain⟨y,sl⟩:=p
    obtain⟨d,k2,e,a,b⟩:=b
    rw[gr,bz,not_or]at hx
    exact⟨d,k2,e,by simp only[hm y λe=>hx.1 e.symm];exact a.mono le,f _ b hx.2⟩
 | @tail x s i σ n p c f=>
  intro nd l hl
  obtain⟨y,sl⟩:=p
  obtain⟨d,k2,e,a,b⟩:=hl
  have o:y ∉ σ.map ai:=(dQ.mp nd).1
  have j:y≠x:=λe=>o (by simp only[e];exact j6 c.mem)
  obtain⟨l1,l2,l3,e2,hs,k⟩:=f (dQ.mp nd).2 b
  refine⟨d++l1,l2,l3,by simp only[e,e2];simp,hs,λs' σ' g H' m' dN le hm q=>?_⟩
  cases g with
  |head=>exact absurd rfl j
  |tail g=>
   refine⟨d,l1++dN++l3,by simp,?_,k s' _ g H' m' dN le hm q⟩
   simp only[hm y j];exact a.mono le
theorem CR.keys{H:PM}: ∀{ca:List (ag×aw)} {κ:cL} {l:av},CR H ca κ l->κ.map ai=ca.map ai
 | [],[],_,_=>rfl
 |(x,c)::ca,(y,sl)::κ,l,⟨e0,oc,vo,l1,l2,_,_,_,b⟩=>by simp only[gr,gr,CR.keys b,e0]
 | [],_::_,_,h=>h.elim
 |_::_,[],_,h=>h.elim
theorem CR.focus{H:PM}{σ m:cL}{x:ag}{s i:Slot}(h:At σ x s i m): ∀{ca:List (ag×aw)} {l:av},(ca.map ai).Nodup->CR H ca σ l->
  PN H ca σ x s l:=by
 induction h with
 | @head x s i σ=>
  intro ca l nd hl
  induction ca with
  |nil=>exact hl.elim
  |cons p ca=>
   obtain⟨y,c⟩:=p
   obtain⟨e0,oc,vo,l1,l2,e,e2,a,b⟩:=hl
   subst e0
   refine⟨c,oc,vo,[],l1,l2,by simp,e,by simpa using e2,a,λs' σ' f H' fA lH dN le hd hs=>?_⟩
   cases f with
   |head=>exact⟨rfl,fA,lH,dN,l2,hd,rfl,hs,b.mono le⟩
   |tail f=>
    exfalso
    have hn:=(dQ.mp nd).1
    rw[← b.keys]at hn
    exact hn (j6 f.mem)
 | @tail x s i σ m p f r=>
  intro ca l nd hl
  cases ca with
  |nil=>exact hl.elim
  |cons q ca=>
   obtain⟨y,c₀⟩:=q
   obtain⟨y',sl⟩:=p
   obtain⟨e0,o,d,n,k2,e,e2,a,b⟩:=hl
   subst e0
   obtain⟨c,oc,vo,l1,l2,l3,h1,h2,h3,h4,k⟩:=r (dQ.mp nd).2 b
   have j:y≠x:=λe=>by
    subst e
    exact(dQ.mp nd).1 (bF.mpr ⟨(y,c),mem_of_lookup h1,rfl⟩)
   have t:(x==y)=false:=by
    cases hb:x==y with
    |false=>rfl
    |true=>exact absurd (beq_iff_eq.mp hb).symm j
   refine⟨c,oc,vo,(c₀,o)::(n++l1),l2,l3,by simp only[j7,t];exact h1,h2,by simp only[e2,h3];simp,h4,λs' σ' g H' fA lH dN le hd hs=>?_⟩
   cases g with
   |head=>exact absurd rfl j
   |tail g=>exact⟨rfl,o,d,n,l1++(c,fA)::dN++l3,e,by simp,a.mono le,k s' _ g H' fA lH dN le hd hs⟩
inductive IG(Γ:Fm)(Q:T->St->Prop)(v:an)(H':PM)(bV:av):Prop
 |mk (t:T) (S':St) (r:VR H' t v) (s:bd Γ S' H' bV) (q:Q t S')
def Ev(G:aK)(d:Nat)(Γ:Fm)(S:St)(e:Expr)(Q:T->St->Prop):Prop:=
 ∀H led,bd Γ S H led->ae G d H led (eval e Γ.env) (IG Γ Q)
inductive TR(Γ:Fm)(Q:aw->List T->St->Prop)(v:an)(H':PM)(bV:av):Prop
 |mk (a:aw) (vs:List an) (o:bn) (ts:List T) (S':St) (l:av) (e:v= .ref a) (r:aF H' ts vs) (lo:cj o vs) (z:ts.length<=bO) (el:bV=(a,o)::l) (s:bd Γ S' H' l) (q:Q a ts S')
def b5(G:aK)(d:Nat)(Γ:Fm)(S:St)(e:Expr)(Q:aw->List T->St->Prop):Prop:=
 ∀H led,bd Γ S H led->ae G d H led (eval e Γ.env) (TR Γ Q)
inductive Tc(Γ:Fm)(Q:Bool->St->Prop)(b:Bool)(H':PM)(bV:av):Prop
 |mk (S':St) (s:bd Γ S' H' bV) (q:Q b S')
def Tr(G:aK)(d:Nat)(Γ:Fm)(S:St)(e:Expr)(Q:Bool->St->Prop):Prop:=
 ∀H led,bd Γ S H led->ae G d H led (isTrue e Γ.env (eval e Γ.env)) (Tc Γ Q)
inductive cC where
 |next
 |ret (t:T)
theorem cC.retInj{t u:T}(h:cC.ret t= .ret u):t=u:=by cases h;rfl
def Uo(H:PM):cC->Flow->Prop
 | .next,f=>f= .next
 | .ret t,f=>∃v,f= .ret v/\VR H t v
inductive AB(Γ:Fm)(Q:cC->St->Prop)(f:Flow)(H':PM)(bV:av):Prop
 |mk (o:cC) (S':St) (r:Uo H' o f) (s:bd Γ S' H' bV) (q:Q o S')
def Ex(G:aK)(d:Nat)(Γ:Fm)(S:St)(st:aW)(Q:cC->St->Prop):Prop:=
 ∀H led,bd Γ S H led->ae G d H led (exec st Γ.env) (AB Γ Q)
def eH(G:aK)(d:Nat)(Γ:Fm)(S:St)(a:List aW)(Q:cC->St->Prop):Prop:=
 ∀H led,bd Γ S H led->ae G d H led (oh a Γ.env) (AB Γ Q)
section
variable {d:Nat} {Γ:Fm} {S:St}
theorem Ev.mono{e:Expr}{Q Q':T->St->Prop}(h:Ev G d Γ S e Q)(hq: ∀t S,Q t S->Q' t S):Ev G d Γ S e Q':=
 λH led hs=>(h H led hs).mono λv H' l le f=>by obtain⟨t,S',a,b,c⟩:=f;exact(⟨t,S',a,b,hq _ _ c⟩)
theorem Tr.mono{e:Expr}{Q Q':Bool->St->Prop}(h:Tr G d Γ S e Q)(hq: ∀t S,Q t S->Q' t S):Tr G d Γ S e Q':=
 λH led hs=>(h H led hs).mono λv H' l le a=>by obtain⟨S',b,c⟩:=a;exact(⟨S',b,hq _ _ c⟩)
theorem eH.mono{e:List aW}{Q Q':cC->St->Prop}(h:eH G d Γ S e Q)(hq: ∀t S,Q t S->Q' t S):eH G d Γ S e Q':=
 λH led hs=>(h H led hs).mono λv H' l le f=>by obtain⟨t,S',a,b,c⟩:=f;exact(⟨t,S',a,b,hq _ _ c⟩)
theorem Ex.mono{e:aW}{Q Q':cC->St->Prop}(h:Ex G d Γ S e Q)(hq: ∀t S,Q t S->Q' t S):Ex G d Γ S e Q':=
 λH led hs=>(h H led hs).mono λv H' l le ⟨t,S',a,b,c⟩=>⟨t,S',a,b,hq _ _ c⟩
theorem Ev.of_own{e:Expr}{Q:T->St->Prop}(h:b5 G d Γ S e λc ts S'=>Q (.list ts) S'):Ev G d Γ S e Q:=by
 intro H led hs A s k f fl ok sp
 refine eg (h H led hs A s k f fl ok sp) (λv s' m=>?_) λc c x=>x
 obtain⟨h',aU,H',l,e,le,S',a,vs,o,ts,S2,l2,ev,i,g,kz,el,es,q⟩:=m
 subst el
 obtain⟨H2,b,j,S3⟩:=a5.freeze S'
 exact⟨h',aU,H2,l2,e,le.trans b,S3,.list ts,S2,⟨a,vs,o,ev,j,g,kz,i.mono b⟩,es.mono b,q⟩
theorem bd.local{x:ag}{s s':Slot}{σ':cL}{H:PM}{led:av}(hs:bd Γ S H led)(a:At S.l x s s' σ'):
 Γ.env.kindOf x=some .local/\(x==("__debug__":ag))=false:=hs.keys _ a.mem
inductive VL(Γ:Fm)(S:St)(x:ag)(s:Slot)(H:PM)(led:av):Prop
 |mk (oL:bn) (m:ag->Option an) (l2 r:av) (hp:led.Perm (l2++(Γ.env.locals,oL)::r)) (hn:jO oL m) (hs:gf H s (m x) l2)
  (k: ∀s' σ',At S.l x s s' σ'->∀H' kH m' dN,Le H H'->jO kH m'->(∀y,y≠x->m' y=m y)->gf H' s' (m' x) dN->∃bV,bV.Perm (dN++(Γ.env.locals,kH)::r)/\bd Γ ⟨σ',S.c⟩ H' bV)
inductive PO(Γ:Fm)(S:St)(x:ag)(s:Slot)(H:PM)(led:av):Prop
 |mk (c:aw) (oc:bn) (vo:Option an) (l2 r:av) (hc:Γ.ca.lookup x=some c) (hd:oc.data= .cell vo) (hp:led.Perm (l2++(c,oc)::r)) (hs:gf H s vo l2)
  (k: ∀s' σ',At S.c x s s' σ'->∀H' fA lH dN,Le H H'->fA.data= .cell lH->gf H' s' lH dN->∃bV,bV.Perm (dN++(c,fA)::r)/\bd Γ ⟨S.l,σ'⟩ H' bV)
theorem bd.openL{x:ag}{s d:Slot}{b:cL}{H:PM}{led:av}(hs:bd Γ S H led)(a:At S.l x s d b):
  VL Γ S x s H led:=by
 refine aj λh=>?_
 obtain⟨wf,keys,nd,⟨oL,m,lo,lc,e,hn,hl,hc,hf⟩,dj⟩:=hs
 obtain⟨l1,l2,l3,e2,c,k⟩:=hl.focus a nd
 refine h ?_
 refine⟨oL,m,l2,l1++l3++lc,?_,hn,c,λs' σ' a H' kH m' dN le g hm f=>⟨(Γ.env.locals,kH)::(l1++dN++l3++lc),?_,wf,keys.at a,by simp only[a.keys];exact nd,⟨kH,m',_,lc,rfl,g,k s' σ' a H' m' dN le hm f,hc.mono le,λp hp=>(hm p.1 λq=>dj p hp (by simp only[q];exact j6 a.mem)).trans (hf p hp)⟩,λp hp=>(a.keys).symm▸dj p hp⟩⟩
 ·simp only[e,e2]
  refine oj ?_ e8.symm
  refine gM _ ?_
  simp only[dR]
  exact(q8 l1 l2 _)
 ·refine oj ?_ e8.symm
  refine gM _ ?_
  simp only[dR]
  exact(q8 l1 dN _)
theorem bd.openC{x:ag}{s d:Slot}{b:cL}{H:PM}{led:av}(hs:bd Γ S H led)(a:At S.c x s d b):
  PO Γ S x s H led:=by
 refine aj λg=>?_
 obtain⟨wf,keys,nd,⟨oL,m,lo,lc,e,hn,hl,hc,hf⟩,dj⟩:=hs
 obtain⟨c,oc,vo,l1,l2,l3,h1,h2,h3,h4,k⟩:=hc.focus a wf.nd
 refine g ?_
 have pm: ∀(oc:bn) (l2:av),((Γ.env.locals,oL)::(lo++(l1++(c,oc)::l2++l3))).Perm (l2++(c,oc)::((Γ.env.locals,oL)::(lo++l1++l3))):=by
  intro oc l2
  have a1:(l2++(c,oc)::((Γ.env.locals,oL)::(lo++l1++l3))).Perm ((c,oc)::(Γ.env.locals,oL)::(l2++(lo++l1++l3))):=
   e8.trans (gM _ e8)
  refine oj ?_ a1.symm
  refine oj (gM _ ?_) (zb _ _ _)
  have a2:(lo++(l1++(c,oc)::l2++l3))=(lo++l1)++(c,oc)::(l2++l3):=by simp
  simp only[a2]
  refine e8.trans (gM _ ?_)
  exact q8 (lo++l1) l2 l3
 refine⟨c,oc,vo,l2,(Γ.env.locals,oL)::(lo++l1++l3),h1,h2,by simp only[e,h3];exact pm oc l2,h4,λs' σ' a H' fA lH dN le hd f=>⟨(Γ.env.locals,oL)::(lo++(l1++(c,fA)::dN++l3)),pm fA dN,wf,keys,nd,⟨oL,m,lo,_,rfl,hn,hl.mono le,k s' σ' a H' fA lH dN le hd f,hf⟩,dj⟩⟩
theorem ae.read{α:Type}{H:PM}{led:av}{t:bX α}{Q:α->PM->av->Prop}(h: ∀(A:gq) (s:bt),Ok A d->∀(hp:bo) (c:Nat),(∀p∈led,hp.get? p.1=some p.2)->(∀a o,H a=some o->hp.get? a=some o)->
  cW G.M A t (λa s'=>(∃aU,s'={s with heap:=hp,toks:=aU})/\Q a H led) (λb b=>False) {s with heap:=hp,toks:=c}):ae G d H led t Q:=
 λA s f c fl ok S=>eg (h A s ok f c (λp hp=>(S.own p (j8 _ hp)).1) S.frz) (λa s' g=>by obtain⟨⟨aU,e⟩,q⟩:=g;exact(⟨f,aU,H,led,e,.refl _,S,q⟩)) λb b x=>x
theorem Ev.name{x:ag}{pos:ax}{t:T}{Q:T->St->Prop}(a:At S.l x (.val t) (.val t) S.l)(h:Q t S):Ev G d Γ S (.Name x pos) Q:=by
 intro H led hs
 refine aj λe=>?_
 obtain⟨oL,m,l2,r,hp,hn,⟨⟨v,b,hr⟩,_⟩,_⟩:=hs.openL a
 refine e ?_
 refine ae.read λA s ok hh tk ho hf=>?_
 have c:=ho (Γ.env.locals,oL) (hp.mem_iff.mpr (iG _ (.head _)))
 exact v5 (EQ (m:=m) hs.wf.kind (hs.local a).1 (hn.ns c) b ⟨⟨_,rfl⟩,t,S,hr,hs,h⟩) (hs.local a).2
theorem Ev.nameC{x:ag}{pos:ax}{t:T}{Q:T->St->Prop}(e:At S.c x (.val t) (.val t) S.c)(h:Q t S)(hk:Γ.env.kindOf x=some .cell)
  (hd:(x==("__debug__":ag))=false):Ev G d Γ S (.Name x pos) Q:=by
 intro H led hs
 refine aj λb=>?_
 obtain⟨c,oc,vo,l2,r,h1,h2,hp,⟨⟨v,a,hr⟩,_⟩,_⟩:=hs.openC e
 refine b ?_
 refine ae.read λA s ok hh tk ho hf=>?_
 have hC:=ho (c,oc) (hp.mem_iff.mpr (iG _ (.head _)))
 subst a
 exact v5 (L7 hs.wf.kind hk (hs.wf.cells _ _ h1 (.inl hk)) ⟨oc,hC,h2⟩ ⟨⟨_,rfl⟩,t,S,hr,hs,h⟩) hd
theorem Ev.nameF{x:ag}{pos:ax}{t:T}{Q:T->St->Prop}(e:At S.c x (.val t) (.val t) S.c)(h:Q t S)(hk:Γ.env.kindOf x=some .free)
  (hd:(x==("__debug__":ag))=false) (hd2:(x==("__classdict__":ag))=false):Ev G d Γ S (.Name x pos) Q:=by
 intro H led hs
 refine aj λb=>?_
 obtain⟨c,oc,vo,l2,r,h1,h2,hp,⟨⟨v,a,hr⟩,_⟩,_⟩:=hs.openC e
 refine b ?_
 refine ae.read λA s ok hh tk ho hf=>?_
 have hC:=ho (c,oc) (hp.mem_iff.mpr (iG _ (.head _)))
 subst a
 exact v5 (wpAny_loadName_free hs.wf.kind hk (hs.wf.cells _ _ h1 (.inr hk)) ⟨oc,hC,h2⟩ ⟨⟨_,rfl⟩,t,S,hr,hs,h⟩ hd2) hd
end
end
section
variable {G:aK} {d:Nat}
theorem ae.operate{H:PM}{led:av}{vs:List an}{m:bX an}{Q:an->PM->av->Prop}(h:ae G d H led m Q):ae G d H led (PySem.operate vs m) Q:=
 λA s b a fl ok S Γ p c=>by rw[Sem.wp_operate];exact h A s b a fl ok S Γ p c
theorem ae.release{H:PM}{led:av}{vs ks:List an}{Q:Unit->PM->av->Prop}(h:Q () H led):ae G d H led (PySem.release vs ks) Q:=
 λA s b a fl ok S Γ p aJ=>by rw[Sem.wp_release];exact⟨b,a,H,led,rfl,.refl _,S,h⟩
theorem ae.bindName{H:PM}{led:av}{env:c6}{x:ag}{v:an}{Q:Unit->PM->av->Prop}(h:ae G d H led (v6 env x v) Q):ae G d H led (v7 env x v) Q:=
 λA s b a fl ok S=>wpAny_bindName (h A s b a fl ok S)
noncomputable def bk(a:Int)(k:Nat):Bool:=Nat.ble (Nat.succ a.natAbs) (Nat.pow 2 k)
theorem Jv{a:Int}{k:Nat}(h:bk a k=true)(h0:a≠0):a.natAbs.log2<k:=by
 have h1:a.natAbs<2^k:=mP h
 exact(Nat.log2_lt (by lia)).mpr h1
theorem vi{a:Int}{k:Nat}(h:bk a k=true):v8 a<=k:=by
 unfold v8
 by_cases h0:a=0
 ·subst h0;simp
 ·have :=Jv h h0
  rw[if_neg (by simpa using h0)];trivial
noncomputable def aq(a b:Int):Bool:=bk a 64 ||bk b 64 ||(bk a 60000&&bk b 60000)
theorem T2{a b:Int}(h:aq a b=true):IntMulOk a b:=by
 unfold aq at h
 simp only[v9,cO]at h
 rcases h with(h|h)|⟨h1,h2⟩
 ·exact .of_left (vi h)
 ·exact .of_right (vi h)
 ·have h1:=vi h1
  have h2:=vi h2
  unfold IntMulOk Builtin.Int.intTooBig
  rw[bitsLine_eq]
  simp only[cO,decide_eq_true_eq,not_and]
  intro _ _
  lia
noncomputable def ce(a:Int)(n:Nat):Bool:=bk a 4096&&Nat.ble n 32768
theorem Nk{a:Int}{n:Nat}(h:ce a n=true):v8 a*n<=134217728:=by
 unfold ce at h
 obtain⟨h1,h2⟩:=q9.mp h
 have h1:=vi h1
 have h2:=mP h2
 exact aZ (ER h1 h2) (by decide)
noncomputable def xI(a b:Int):Option Int:=bif aq a b then some (a*b)else none
noncomputable def Cz(a n:Int):Option Int:=if 0<=n/\ce a n.toNat then some (a^n.toNat)else none
noncomputable def Gu(a b:Int):Option Int:=if b≠0/\bk b 8000=true then some (a.fdiv b)else none
noncomputable def HZ(a b:Int):Option Int:=if b≠0 then some (a.fmod b)else none
theorem WU{a b:Int}(h0:b≠0)(h:bk b 8000=true):Xm a b=false:=by
 have :=Jv h h0
 unfold Xm
 have e:(if(b==0)=true then 0 else b.natAbs.log2/30+1)<=300:=by
  rw[if_neg (by simpa using h0)];lia
 dsimp only
 rw[Bool.and_eq_false_iff]
 left
 exact decide_eq_false (by lia)
theorem UZ{a b r:Int}(h:xI a b=some r):IntMulOk a b/\r=a*b:=by
 unfold xI at h
 cases q:aq a b<;>rw[q]at h
 ·cases h
 ·cases h;exact⟨T2 q,rfl⟩
theorem T3{a n r:Int}(h:Cz a n=some r):0<=n/\(v8 a:Int)*n<=2^27/\r=a^n.toNat:=by
 unfold Cz at h;split at h
 ·rename_i q;cases h
  obtain⟨q0,q1⟩:=q
  have q1:=Nk q1
  refine⟨q0,?_,rfl⟩
  have e:((v8 a*n.toNat:Nat):Int)=(v8 a:Int)*n:=by
   simp only[jx,Xn q0]
  simp only[← e];lia
 ·cases h
def cA(G:aK)(d:Nat)(H:PM)(m:bX an)(t:T):Prop:=ae G d H [] m λv H' l=>VR H' t v/\l=[]
theorem cA.run{H:PM}{led:av}{m:bX an}{t:T}{Q:an->PM->av->Prop}(h:cA G d H m t)(hq: ∀v H',Le H H'->VR H' t v->Q v H' led):ae G d H led m Q:=
 (ae.frame (fr:=led) h).mono λv H' l le ⟨l',e,r,a⟩=>by subst a e;exact hq v H' le r
inductive Ax(ts:List T)(v:an)(H':PM)(l:av):Prop
 |mk (a:aw) (vs:List an) (o:bn) (e:v= .ref a) (r:aF H' ts vs) (lo:cj o vs) (z:ts.length<=bO) (el:l=[(a,o)])
def nC(G:aK)(d:Nat)(H:PM)(m:bX an)(ts:List T):Prop:=ae G d H [] m (Ax ts)
theorem nC.run{H:PM}{led:av}{m:bX an}{ts:List T}{Q:an->PM->av->Prop}(h:nC G d H m ts)
  (hq: ∀a vs o H',Le H H'->aF H' ts vs->cj o vs->ts.length<=bO->Q (.ref a) H' ((a,o)::led)):ae G d H led m Q:=
 (ae.frame (fr:=led) h).mono λv H' l le ⟨l',e,a,vs,o,ev,r,k,z,b⟩=>by subst b e ev;exact hq a vs o H' le r k z
theorem cA.read{H:PM}{m:bX an}{t:T}(h: ∀(A:gq) (s:bt),Ok A d->∀(hp:bo) (c:Nat),(∀a o,H a=some o->hp.get? a=some o)->(∀a o,G.hB.get? a=some o->hp.get? a=some o)->
  cW G.M A m (λv s'=>(∃aU,s'={s with heap:=hp,toks:=aU})/\VR H t v) (λb b=>False) {s with heap:=hp,toks:=c}):cA G d H m t:=
 ae.withBase λhb=>ae.read λA s ok hp c b hf=>eg (h A s ok hp c hf λa o e=>hf a o (hb a o e)) (λv s' ⟨e,r⟩=>⟨e,r,rfl⟩) λb b x=>x
theorem cA.anyH{H:PM}{m:bX an}{t:T}(h:cA G d H m t):cA G d H m t:=h
inductive Sr(hp:bo)(s s':bt):Prop
 |mk (h':bo) (aU:Nat) (hk: ∀b o,hp.get? b=some o->h'.get? b=some o) (e:s'={s with heap:=h',toks:=aU})
theorem qJ{h:bo}(o:bn):h.get? h.objs.size≠some o:=λe=>jY _ (gm e)
inductive JO(H:PM)(ts:List T)(hp:bo)(s:bt)(v:an)(s':bt):Prop
 |mk (h':bo) (aU:Nat) (a:aw) (vs:List an) (ob:bn) (hk: ∀b o,hp.get? b=some o->h'.get? b=some o) (e:s'={s with heap:=h',toks:=aU}) (ev:v= .ref a) (ha: ∀o,hp.get? a≠some o) (ho:h'.get? a=some ob) (kl:cj ob vs) (kz:ts.length<=bO) (r:aF H ts vs)
theorem cA.grow{H:PM}{m:bX an}{t:T}(h: ∀(A:gq) (s:bt),Ok A d->∀(hp:bo) (c:Nat),(∀a o,H a=some o->hp.get? a=some o)->(∀a o,G.hB.get? a=some o->hp.get? a=some o)->
  cW G.M A m (λv s'=>Sr hp s s'/\VR H t v) (λb b=>False) {s with heap:=hp,toks:=c}):cA G d H m t:=
 λA s hp c fl ok S=>eg (h A s ok hp c S.frz λa o e=>S.frz a o (S.base a o e)) (λv s' z=>by
  refine aj λf=>?_
  obtain⟨⟨h',aU,hk,e⟩,r⟩:=z
  refine f ?_
  exact⟨h',aU,H,[],e,.refl _,S.keep hk,r,rfl⟩) λb b x=>x
inductive NJ(P:an->aw->bn->Prop)(hp:bo)(s:bt)(v:an)(s':bt):Prop
 |mk (h':bo) (aU:Nat) (a:aw) (ob:bn) (hk: ∀b o,hp.get? b=some o->h'.get? b=some o) (e:s'={s with heap:=h',toks:=aU}) (hn: ∀o,hp.get? a≠some o) (ho:h'.get? a=some ob) (q:P v a ob)
theorem ae.growO{H:PM}{led:av}{m:bX an}{P:an->aw->bn->Prop}(h: ∀(A:gq) (s:bt),Ok A d->∀(hp:bo) (f:Nat),(∀a o,H a=some o->hp.get? a=some o)->(∀a o,G.hB.get? a=some o->hp.get? a=some o)->(∀p∈led,hp.get? p.1=some p.2)->
  cW G.M A m (NJ P hp s) (λc c=>False) {s with heap:=hp,toks:=f}):ae G d H led m λv H' l=>H'=H/\∃a ob,l=[(a,ob)]/\P v a ob:=
 λA s hp f fl ok S0=>eg (h A s ok hp f S0.frz (λa o e=>S0.frz a o (S0.base a o e)) λp hp=>(S0.own p (j8 _ hp)).1) (λv s' z=>by
  refine aj λg=>?_
  obtain⟨h',aU,a,ob,hk,e,hn,ho,q⟩:=z
  have S:=a5.drop S0
  have S':=S.keep hk
  refine g ⟨h',aU,H,[(a,ob)],e,.refl _,⟨S'.base,S'.frz,λp b=>?_,dQ.mpr ⟨λhm=>?_,S.nd⟩⟩,rfl,a,ob,rfl,q⟩
  ·rcases bz.mp b with e|b
   ·rw[e]
    refine⟨ho,?_⟩
    cases q:H a with
    |none=>rfl
    |some o=>exact absurd (S.frz _ _ q) (hn o)
   ·exact S'.own p b
  ·obtain⟨p,b,q⟩:=bF.mp hm
   exact hn p.2 (by have :=(S.own p b).1;rw[q]at this;exact this)) λc c x=>x
theorem ae.growE{H:PM}{led:av}{m:bX an}{P:List T->Prop}(h: ∀(A:gq) (s:bt),Ok A d->∀(hp:bo) (c:Nat),(∀a o,H a=some o->hp.get? a=some o)->(∀a o,G.hB.get? a=some o->hp.get? a=some o)->(∀p∈led,hp.get? p.1=some p.2)->
  cW G.M A m (λv s'=>∃ts,P ts/\JO H ts hp s v s') (λb b=>False) {s with heap:=hp,toks:=c}):ae G d H led m λv H' l=>∃ts,P ts/\Ax ts v H' l:=
 (ae.growO (P:=λv a ob=>∃ts vs,P ts/\v= .ref a/\cj ob vs/\ts.length<=bO/\aF H ts vs) λA s ok hp c hf hb hl=>eg (h A s ok hp c hf hb hl)
  (λv s' ⟨ts,p,h',aU,a,vs,ob,hk,e,ev,ha,ho,kl,kz,r⟩=>⟨h',aU,a,ob,hk,e,ha,ho,ts,vs,p,ev,kl,kz,r⟩) λb b x=>x).mono λv H' l b z=>by
  obtain⟨rfl,a,ob,rfl,ts,vs,p,e,kl,kz,r⟩:=z
  exact⟨ts,p,a,vs,ob,e,r,kl,kz,rfl⟩
theorem nC.grow{H:PM}{m:bX an}{ts:List T}(h: ∀(A:gq) (s:bt),Ok A d->∀(hp:bo) (c:Nat),(∀a o,H a=some o->hp.get? a=some o)->(∀a o,G.hB.get? a=some o->hp.get? a=some o)->
  cW G.M A m (JO H ts hp s) (λb b=>False) {s with heap:=hp,toks:=c}):nC G d H m ts:=
 (ae.growE (P:=λx=>x=ts) λA s ok hp c hf hb b=>eg (h A s ok hp c hf hb) (λb b z=>⟨ts,rfl,z⟩) λb b x=>x).mono λb b b b z=>z.elim λb z=>z.1▸z.2
noncomputable abbrev ti(i:Int):T:=.int i
theorem VR.int{H:PM}{i:Int}{v:an}(h:VR H (.int i) v): ∃t,v= .int i t:=h
theorem VR.ofInt{H:PM}{i:Int}{t:Tok}:VR H (.int i) (.int i t):=⟨t,rfl⟩
theorem VR.ofBool{H:PM}{b:Bool}:VR H (.bool b) (.bool b):=rfl
theorem VR.ofNone{H:PM}:VR H .none .none:=rfl
theorem VR.ofStr{H:PM}{x:ag}{t:Tok}:VR H (.str x) (.str x t):=⟨t,rfl⟩
def dC(G:aK)(op:eJ)(a b c:T):Prop:=∀d H v w,VR H a v->VR H b w->cA G d H (binaryOp op v w) c
theorem dC.add{a b:Int}:dC G .Add (.int a) (.int b) (.int (a+b)):=λd H v w e hw=>by
 obtain⟨t,rfl⟩:=e.int;obtain⟨u,rfl⟩:=hw.int
 exact cA.read λA s ok hp tk c c=>P.add_int ⟨⟨_,rfl⟩,VR.ofInt⟩
theorem dC.sub{a b:Int}:dC G .Sub (.int a) (.int b) (.int (a-b)):=λd H v w e hw=>by
 obtain⟨t,rfl⟩:=e.int;obtain⟨u,rfl⟩:=hw.int
 exact cA.read λA s ok hp tk c c=>P.sub_int ⟨⟨_,rfl⟩,VR.ofInt⟩
theorem dC.mul{a b c:Int}(h:xI a b=some c):dC G .Mult (.int a) (.int b) (.int c):=λd H v w f hw=>by
 obtain⟨t,rfl⟩:=f.int;obtain⟨u,rfl⟩:=hw.int
 obtain⟨hm,rfl⟩:=UZ h
 exact cA.read λA s ok hp tk e e=>P.mul_int (hm:=hm) ⟨⟨_,rfl⟩,VR.ofInt⟩
theorem dC.pow{a b c:Int}(h:Cz a b=some c):dC G .Pow (.int a) (.int b) (.int c):=λd H v w f hw=>by
 obtain⟨t,rfl⟩:=f.int;obtain⟨u,rfl⟩:=hw.int
 obtain⟨h0,h1,rfl⟩:=T3 h
 exact cA.read λA s ok hp tk e e=>pow_int h0 h1 ⟨⟨_,rfl⟩,VR.ofInt⟩
theorem dC.mod{a b c:Int}(h:HZ a b=some c):dC G .Mod (.int a) (.int b) (.int c):=λd H v w f hw=>by
 obtain⟨t,rfl⟩:=f.int;obtain⟨u,rfl⟩:=hw.int
 unfold HZ at h;split at h
 ·rename_i hb;cases h
  exact cA.read λA s ok hp tk e e=>mod_int' hb ⟨⟨_,rfl⟩,VR.ofInt⟩
 ·cases h
theorem dC.div{a b c:Int}(h:Gu a b=some c):dC G .FloorDiv (.int a) (.int b) (.int c):=λd H v w e hw=>by
 obtain⟨t,rfl⟩:=e.int;obtain⟨u,rfl⟩:=hw.int
 unfold Gu at h;split at h
 ·rename_i hb;cases h
  exact cA.read λA s ok hp tk z_ hk=>floordiv_int hb.1 (hp:=.inl (WU hb.1 hb.2)) ⟨⟨_,rfl⟩,VR.ofInt⟩
 ·cases h
def cK(G:aK)(op:gu)(a b:T)(c:Bool):Prop:=∀d H v w,VR H a v->VR H b w->cA G d H (ES op v w) (.bool c)
theorem cK.eq{a b:Int}:cK G .Eq (.int a) (.int b) (a==b):=λd H v w e hw=>by
 obtain⟨t,rfl⟩:=e.int;obtain⟨u,rfl⟩:=hw.int
 exact cA.read λA s ok hp tk c c=>P.eq_int ⟨⟨_,rfl⟩,VR.ofBool⟩
theorem cK.ne{a b:Int}:cK G .NotEq (.int a) (.int b) (a !=b):=λd H v w e hw=>by
 obtain⟨t,rfl⟩:=e.int;obtain⟨u,rfl⟩:=hw.int
 exact cA.read λA s ok hp tk c c=>P.ne_int ⟨⟨_,rfl⟩,VR.ofBool⟩
theorem cK.lt{a b:Int}:cK G .Lt (.int a) (.int b) (decide (a<b)):=λd H v w e hw=>by
 obtain⟨t,rfl⟩:=e.int;obtain⟨u,rfl⟩:=hw.int
 exact cA.read λA s ok hp tk c c=>P.lt_int ⟨⟨_,rfl⟩,VR.ofBool⟩
theorem cK.le{a b:Int}:cK G .LtE (.int a) (.int b) (decide (a<=b)):=λd H v w e hw=>by
 obtain⟨t,rfl⟩:=e.int;obtain⟨u,rfl⟩:=hw.int
 exact cA.read λA s ok hp tk c c=>P.le_int ⟨⟨_,rfl⟩,VR.ofBool⟩
theorem cK.gt{a b:Int}:cK G .Gt (.int a) (.int b) (decide (a>b)):=λd H v w e hw=>by
 obtain⟨t,rfl⟩:=e.int;obtain⟨u,rfl⟩:=hw.int
 exact cA.read λA s ok hp tk c c=>P.gt_int ⟨⟨_,rfl⟩,VR.ofBool⟩
theorem cK.ge{a b:Int}:cK G .GtE (.int a) (.int b) (decide (a≥b)):=λd H v w e hw=>by
 obtain⟨t,rfl⟩:=e.int;obtain⟨u,rfl⟩:=hw.int
 exact cA.read λA s ok hp tk c c=>P.ge_int ⟨⟨_,rfl⟩,VR.ofBool⟩
variable {Γ:Fm} {S:St}
theorem Ev.int{i:Int}{k:Nat}{pos:ax}{Q:T->St->Prop}(h:Q (.int i) S):Ev G d Γ S (.Constant (.int i) k pos) Q:=
 λH led hs=>ae.read λA s ok hp tk a a=>wpAny_Constant_int ⟨⟨_,rfl⟩,_,S,VR.ofInt,hs,h⟩
theorem Ev.str{x:ag}{k:Nat}{pos:ax}{Q:T->St->Prop}(h:Q (.str x) S):Ev G d Γ S (.Constant (.str x) k pos) Q:=
 λH led hs=>ae.read λA s ok hp tk a a=>Constant_str ⟨⟨_,rfl⟩,_,S,VR.ofStr,hs,h⟩
theorem Ev.noneC{k:Nat}{pos:ax}{Q:T->St->Prop}(h:Q .none S):Ev G d Γ S (.Constant .none k pos) Q:=
 λH led hs=>ae.pure ⟨_,S,VR.ofNone,hs,h⟩
theorem Ev.boolC{b:Bool}{k:Nat}{pos:ax}{Q:T->St->Prop}(h:Q (.bool b) S):Ev G d Γ S (.Constant (.bool b) k pos) Q:=
 λH led hs=>ae.pure ⟨_,S,VR.ofBool,hs,h⟩
theorem Ev.bin{l r:Expr}{op:eJ}{pos:ax}{Q:T->St->Prop}
  (h:Ev G d Γ S l λa S1=>Ev G d Γ S1 r λb S2=>∃c,dC G op a b c/\Q c S2):Ev G d Γ S (.BinOp l op r pos) Q:=by
 intro H led hs
 simp only[arm_eval_BinOp]
 refine ae.bind ((h H led hs).mono λv H' l' le e=>?_)
 refine aj λf=>?_
 obtain⟨a,S1,i,s1,q⟩:=e
 refine f ?_
 refine ae.bind (ae.holding ((q H' l' s1).mono λw H2 l2 k e=>?_))
 refine aj λf=>?_
 obtain⟨b,S2,g,s2,c,hb,q2⟩:=e
 refine f ?_
 refine ae.bind (ae.standAt (ae.operate ?_))
 exact(hb d H2 v w (i.mono k) g).run λu H3 j rc=>⟨c,S2,rc,s2.mono j,q2⟩
theorem Ev.neg{x:Expr}{pos:ax}{Q:T->St->Prop}(h:Ev G d Γ S x λa S1=>∃i,a= .int i/\Q (.int (-i)) S1):Ev G d Γ S (.UnaryOp .USub x pos) Q:=by
 intro H led hs
 simp only[arm_eval_UnaryOp]
 refine ae.bind ((h H led hs).mono λv H' l' le f=>?_)
 obtain⟨a,S1,c,s1,i,e,q⟩:=f
 subst e
 obtain⟨t,rfl⟩:=c.int
 refine ae.bind (ae.standAt (ae.holding ?_))
 exact ae.read λA s ok hp tk b b=>P.neg_int ⟨⟨_,rfl⟩,_,S1,VR.ofInt,s1,q⟩
theorem yc{op:gu}{e:Expr}{t:bX an}(h:on op e=false):markedBehindIn op e t=t:=markedBehindIn_of_false h
theorem Ev.cmp{l r:Expr}{op:gu}{pos:ax}{Q:T->St->Prop}(hm:on op r=false)
  (h:Ev G d Γ S l λa S1=>Ev G d Γ S1 r λb S2=>∃c,cK G op a b c/\Q (.bool c) S2):Ev G d Γ S (.Compare l [op] [r] pos) Q:=by
 intro H led hs
 simp only[eval_Compare1,yc hm]
 refine ae.bind ((h H led hs).mono λv H' l' le e=>?_)
 refine aj λf=>?_
 obtain⟨a,S1,i,s1,q⟩:=e
 refine f ?_
 refine ae.bind (ae.holding ((q H' l' s1).mono λw H2 l2 k e=>?_))
 refine aj λf=>?_
 obtain⟨b,S2,g,s2,c,hb,q2⟩:=e
 refine f ?_
 refine ae.bind (ae.standAt (ae.operate ?_))
 exact(hb d H2 v w (i.mono k) g).run λu H3 j rc=>⟨_,S2,rc,s2.mono j,q2⟩
theorem ae.truthyBool{H:PM}{led:av}{b:Bool}{Q:Bool->PM->av->Prop}(h:Q b H led):ae G d H led (truthy (.bool b)) Q:=
 λA s c a fl ok S=>wpAny_truthy_bool ⟨c,a,H,led,rfl,.refl _,S,h⟩
theorem VR.bool{H:PM}{b:Bool}{v:an}(h:VR H (.bool b) v):v= .bool b:=h
theorem Tr.cmp{l r:Expr}{op:gu}{pos:ax}{Q:Bool->St->Prop}(hm:on op r=false)
  (h:Ev G d Γ S l λa S1=>Ev G d Γ S1 r λb S2=>∃c,cK G op a b c/\Q c S2):Tr G d Γ S (.Compare l [op] [r] pos) Q:=by
 intro H led hs
 simp only[isTrue_Compare1,yc hm]
 refine ae.bind ((h H led hs).mono λv H' l' le e=>?_)
 refine aj λf=>?_
 obtain⟨a,S1,i,s1,q⟩:=e
 refine f ?_
 refine ae.bind (ae.holding ((q H' l' s1).mono λw H2 l2 k e=>?_))
 refine aj λf=>?_
 obtain⟨b,S2,g,s2,c,hb,q2⟩:=e
 refine f ?_
 refine ae.bind (ae.standAt (ae.bind (ae.operate ?_)))
 refine(hb d H2 v w (i.mono k) g).run λu H3 j rc=>ae.holding ?_
 obtain rfl:=rc.bool
 exact ae.truthyBool ⟨S2,s2.mono j,q2⟩
theorem Tr.cmp2{l m r:Expr}{op hY:gu}{pos:ax}{Q:Bool->St->Prop}(hm:on hY r=false)
  (h:Ev G d Γ S l λa S1=>Ev G d Γ S1 m λb S2=>∃c,cK G op a b c/\(c=false->Q false S2)/\(c=true->Ev G d Γ S2 r λe S3=>∃k,cK G hY b e k/\Q k S3)):
  Tr G d Γ S (.Compare l [op,hY] [m,r] pos) Q:=by
 intro H led hs
 rw[arm_isTrue_Compare]
 show ae G d H led (do let v ← eval l Γ.env;testChain pos v [op,hY] [eval m Γ.env,markedBehindIn hY r (eval r Γ.env)]) _
 rw[yc hm]
 refine ae.bind ((h H led hs).mono λv H' l' le f=>?_)
 refine aj λg=>?_
 obtain⟨a,S1,p,s1,q⟩:=f
 refine g ?_
 show ae G d H' l' (do
  let rv ← holding [v] (eval m Γ.env)
  standAt pos
  let c ← holding [v,rv] (ES op v rv)
  release [v,rv] [c]
  if ← holding [c,rv] (truthy c)then testChain pos rv [hY] [eval r Γ.env]else pure false) _
 refine ae.bind (ae.holding ((q H' l' s1).mono λw H2 l2 A f=>?_))
 refine aj λg=>?_
 obtain⟨b,S2,n,s2,c,hb,q2,t⟩:=f
 refine g ?_
 refine ae.bind (ae.standAt (ae.bind (ae.holding ?_)))
 refine(hb d H2 v w (p.mono A) n).run λu o j rc=>ae.bind (ae.release (ae.bind (ae.holding ?_)))
 obtain rfl:=rc.bool
 refine ae.truthyBool ?_
 induction c with
 |false=>exact ae.pure ⟨S2,s2.mono j,q2 rfl⟩
 |true=>
  show ae G d o l2 (do
   let rv ← holding [w] (eval r Γ.env)
   standAt pos
   let c ← operate [w,rv] (ES hY w rv)
   holding [c] (truthy c)) _
  refine ae.bind (ae.holding ((t rfl o l2 (s2.mono j)).mono λx B l4 y f=>?_))
  refine aj λg=>?_
  obtain⟨e,S3,re,s3,k,i,s⟩:=f
  refine g ?_
  refine ae.bind (ae.standAt (ae.bind (ae.operate ?_)))
  refine(i d B w x (n.mono (j.trans y)) re).run λu H5 z rc=>ae.holding ?_
  obtain rfl:=rc.bool
  exact ae.truthyBool ⟨S3,s3.mono z,s⟩
theorem Tr.not{e:Expr}{pos:ax}{Q:Bool->St->Prop}(h:Tr G d Γ S e λb S1=>Q (!b) S1):Tr G d Γ S (.UnaryOp .Not e pos) Q:=by
 intro H led hs
 simp only[arm_isTrue_UnaryOp]
 exact ae.bind ((h H led hs).mono λb H' l' le ⟨S1,s1,q⟩=>ae.pure ⟨S1,s1,q⟩)
theorem Tr.and2{x y:Expr}{pos:ax}{Q:Bool->St->Prop}(h:Tr G d Γ S x λb S1=>(b=false->Q false S1)/\(b=true->Tr G d Γ S1 y Q)):Tr G d Γ S (.BoolOp .And [x,y] pos) Q:=by
 intro H led hs
 rw[arm_isTrue_BoolOp,ET]
 refine ae.bind ((h H led hs).mono λb H' l' le a=>?_)
 obtain⟨S1,s1,q1,q2⟩:=a
 induction b with
 |false=>exact ae.pure ⟨S1,s1,q1 rfl⟩
 |true=>
  show ae G d H' l' (allTrue .And [y] Γ.env) _
  rw[ET]
  refine ae.bind ((q2 rfl H' l' s1).mono λb H2 l2 aV ⟨S2,s2,q⟩=>?_)
  induction b with
  |false=>exact ae.pure ⟨S2,s2,q⟩
  |true=>exact ae.pure ⟨S2,s2,q⟩
theorem Tr.or2{x y:Expr}{pos:ax}{Q:Bool->St->Prop}(h:Tr G d Γ S x λb S1=>(b=true->Q true S1)/\(b=false->Tr G d Γ S1 y Q)):Tr G d Γ S (.BoolOp .Or [x,y] pos) Q:=by
 intro H led hs
 rw[arm_isTrue_BoolOp,ET]
 refine ae.bind ((h H led hs).mono λb H' l' le a=>?_)
 obtain⟨S1,s1,q1,q2⟩:=a
 induction b with
 |true=>exact ae.pure ⟨S1,s1,q1 rfl⟩
 |false=>
  show ae G d H' l' (allTrue .Or [y] Γ.env) _
  rw[ET]
  refine ae.bind ((q2 rfl H' l' s1).mono λb H2 l2 aV ⟨S2,s2,q⟩=>?_)
  induction b with
  |true=>exact ae.pure ⟨S2,s2,q⟩
  |false=>exact ae.pure ⟨S2,s2,q⟩
theorem Ev.ifExp{c x y:Expr}{pos:ax}{Q:T->St->Prop}(h:Tr G d Γ S c λb S1=>(b=true->Ev G d Γ S1 x Q)/\(b=false->Ev G d Γ S1 y Q)):Ev G d Γ S (.IfExp c x y pos) Q:=by
 intro H led hs
 simp only[arm_eval_IfExp]
 refine ae.bind ((h H led hs).mono λb H' l' le a=>?_)
 obtain⟨S1,s1,q1,q2⟩:=a
 induction b with
 |true=>exact q1 rfl H' l' s1
 |false=>exact q2 rfl H' l' s1
theorem b5.ifExp{c x y:Expr}{pos:ax}{Q:aw->List T->St->Prop}(h:Tr G d Γ S c λb S1=>(b=true->b5 G d Γ S1 x Q)/\(b=false->b5 G d Γ S1 y Q)):b5 G d Γ S (.IfExp c x y pos) Q:=by
 intro H led hs
 simp only[arm_eval_IfExp]
 refine ae.bind ((h H led hs).mono λb H' l' le a=>?_)
 obtain⟨S1,s1,q1,q2⟩:=a
 induction b with
 |true=>exact q1 rfl H' l' s1
 |false=>exact q2 rfl H' l' s1
end
section
variable {G:aK} {d:Nat} {Γ:Fm} {S:St}
theorem Ev.nameOwn{x:ag}{pos:ax}{a:aw}{ts:List T}{σ':cL}{Q:T->St->Prop}(e:At S.l x (.own a ts) (.val (.list ts)) σ')(i:At σ' x (.val (.list ts)) (.val (.list ts)) σ')
  (h:Q (.list ts) ⟨σ',S.c⟩):Ev G d Γ S (.Name x pos) Q:=by
 intro H led hs
 refine aj λb=>?_
 obtain⟨oL,m,l2,r,hp,hn,⟨vs,o,hm,g,ho,hz,rfl⟩,k⟩:=hs.openL e
 refine b ?_
 refine ae.perm (ae.freeze (a:=a) (o:=o) (led:=(Γ.env.locals,oL)::r) λH' le ha=>?_) hp
 refine aj λb=>?_
 obtain⟨bV,n,j⟩:=k _ _ e H' oL m [] le hn (λf f=>rfl) ⟨⟨_,hm,⟨a,vs,o,rfl,ha,ho,hz,g.mono le⟩⟩,rfl⟩
 refine b ?_
 exact ae.perm (Ev.name (S:=⟨σ',S.c⟩) i h H' bV j) n.symm
theorem Ev.nameOwnC{x:ag}{pos:ax}{a:aw}{ts:List T}{σ':cL}{Q:T->St->Prop}(b:At S.c x (.own a ts) (.val (.list ts)) σ')(f:At σ' x (.val (.list ts)) (.val (.list ts)) σ')
  (h:Q (.list ts) ⟨S.l,σ'⟩) (hk:Γ.env.kindOf x=some .cell) (hd:(x==("__debug__":ag))=false):Ev G d Γ S (.Name x pos) Q:=by
 intro H led hs
 refine aj λj=>?_
 obtain⟨c,oc,vo,l2,r,h1,h2,hp,⟨vs,o,hm,e,ho,hz,rfl⟩,k⟩:=hs.openC b
 refine j ?_
 refine ae.perm (ae.freeze (a:=a) (o:=o) (led:=(c,oc)::r) λH' le ha=>?_) hp
 obtain⟨bV,i,g⟩:=k _ _ b H' oc vo [] le h2 ⟨⟨_,hm,⟨a,vs,o,rfl,ha,ho,hz,e.mono le⟩⟩,rfl⟩
 exact ae.perm (Ev.nameC (S:=⟨S.l,σ'⟩) f h hk hd H' bV g) i.symm
inductive uJ(Γ:Fm):St->ag->T->St->Prop
 |l {S x t}:At S.l x (.val t) (.val t) S.l->uJ Γ S x t S
 |o {S x a ts σ'}:At S.l x (.own a ts) (.val (.list ts)) σ'->At σ' x (.val (.list ts)) (.val (.list ts)) σ'->uJ Γ S x (.list ts) ⟨σ',S.c⟩
 |c {S x t}:At S.c x (.val t) (.val t) S.c->Γ.env.kindOf x=some .cell->(x==("__debug__":ag))=false->uJ Γ S x t S
 |f {S x t}:At S.c x (.val t) (.val t) S.c->Γ.env.kindOf x=some .free->(x==("__debug__":ag))=false->(x==("__classdict__":ag))=false->uJ Γ S x t S
 |oc {S x a ts σ'}:At S.c x (.own a ts) (.val (.list ts)) σ'->At σ' x (.val (.list ts)) (.val (.list ts)) σ'->Γ.env.kindOf x=some .cell->(x==("__debug__":ag))=false->uJ Γ S x (.list ts) ⟨S.l,σ'⟩
inductive dp(Γ:Fm):St->ag->aw->List T->Prop
 |l {S x a ts}:At S.l x (.own a ts) (.own a ts) S.l->dp Γ S x a ts
 |c {S x a ts}:At S.c x (.own a ts) (.own a ts) S.c->Γ.env.kindOf x=some .cell->(x==("__debug__":ag))=false->dp Γ S x a ts
theorem dp.obj{x:ag}{a:aw}{ts:List T}{H:PM}{led:av}(hs:bd Γ S H led)(ho:dp Γ S x a ts): ∃vs o,(a,o)∈led/\aF H ts vs/\cj o vs/\ts.length<=bO:=by
 induction ho with
 |l e=>
  refine aj λd=>?_
  obtain⟨oL,m,l2,r,hp,hn,⟨vs,o,hm,b,ho,hz,rfl⟩,k⟩:=hs.openL e
  refine d ?_
  exact⟨vs,o,hp.mem_iff.mpr (j8 _ (.head _)),b,ho,hz⟩
 |c e=>
  refine aj λd=>?_
  obtain⟨c,oc,vo,l2,r,h1,h2,hp,⟨vs,o,hm,b,ho,hz,rfl⟩,k⟩:=hs.openC e
  refine d ?_
  exact⟨vs,o,hp.mem_iff.mpr (j8 _ (.head _)),b,ho,hz⟩
theorem dp.read{x:ag}{pos:ax}{a:aw}{ts:List T}{H:PM}{led:av}{Q:an->PM->av->Prop}(hs:bd Γ S H led)(ho:dp Γ S x a ts)(h:Q (.ref a) H led):
  ae G d H led (eval (.Name x pos) Γ.env) Q:=by
 induction ho with
 |l b=>
  refine aj λe=>?_
  obtain⟨oL,m,l2,r,hp,hn,⟨vs,o,hm,g,ho,hz,rfl⟩,k⟩:=hs.openL b
  refine e ?_
  refine ae.read λA s ok i f ho hf=>?_
  have j:=ho (Γ.env.locals,oL) (hp.mem_iff.mpr (iG _ (.head _)))
  exact v5 (EQ (m:=m) hs.wf.kind (hs.local b).1 (hn.ns j) hm ⟨⟨_,rfl⟩,h⟩) (hs.local b).2
 |c b hk hd=>
  refine aj λe=>?_
  obtain⟨c,oc,vo,l2,r,h1,h2,hp,⟨vs,o,hm,g,ho,hz,rfl⟩,k⟩:=hs.openC b
  refine e ?_
  refine ae.read λA s ok i f ho hf=>?_
  have hC:=ho (c,oc) (hp.mem_iff.mpr (iG _ (.head _)))
  subst hm
  exact v5 (L7 hs.wf.kind hk (hs.wf.cells _ _ h1 (.inl hk)) ⟨oc,hC,h2⟩ ⟨⟨_,rfl⟩,h⟩) hd
def cI(G:aK)(x:ag)(v:an):Prop:=G.mg x=some v\/(G.mg x=none/\G.mb x=some v)
theorem ae.gname{H:PM}{led:av}{x:ag}{pos:ax}{v:an}{Q:an->PM->av->Prop}(hs:bd Γ S H led)(hg:cI G x v)(hk:Γ.env.kindOf x=some .globalImplicit)(hd:(x==("__debug__":ag))=false)(h:Q v H led):
  ae G d H led (eval (.Name x pos) Γ.env) Q:=by
 refine ae.withBase λhb=>ae.read λA s ok hp tk ho hf=>?_
 have a: ∀b o,G.hB.get? b=some o->hp.get? b=some o:=λb o e=>hf b o (hb b o e)
 refine Name_function_global hs.wf.kind hk ?_ hd
 rcases hg with hg|⟨hg,c⟩
 ·exact loadGlobal_global (mg:=G.mg) ((hs.wf.glob).symm▸G.top.g.keeps a) hg ⟨⟨_,rfl⟩,h⟩
 ·exact loadGlobal_builtin (mg:=G.mg) (mb:=G.mb) (by rw[hs.wf.glob];exact G.top.g.keeps a) hg (by rw[hs.wf.blt];exact G.top.b.keeps a) c ⟨⟨_,rfl⟩,h⟩
theorem Ev.gname{x:ag}{pos:ax}{v:an}{t:T}{Q:T->St->Prop}(hg:cI G x v)(b: ∀H:PM,(∀a o,G.hB.get? a=some o->H a=some o)->VR H t v)(hk:Γ.env.kindOf x=some .globalImplicit)(hd:(x==("__debug__":ag))=false)(h:Q t S):
 Ev G d Γ S (.Name x pos) Q:=λH led hs=>ae.withBase λhb=>ae.gname hs hg hk hd ⟨t,S,b H hb,hs,h⟩
noncomputable def bh(e:Expr):Bool:=e.ctorIdx !=22
theorem w6{e:Expr}{es:List Expr}{env:c6}(h:bh e=true):fo (e::es) env=(false,eval e env)::fo es env:=by
 cases e<;>first |rfl|cases h
inductive Qe(Γ:Fm)(Q:List T->St->Prop)(vs:List an)(H':PM)(l:av):Prop
 |mk (ts:List T) (S':St) (r:aF H' ts vs) (s:bd Γ S' H' l) (q:Q ts S')
def b8(G:aK)(d:Nat)(Γ:Fm)(S:St)(pos:ax)(es:List Expr)(Q:List T->St->Prop):Prop:=
 ∀H led,bd Γ S H led->ae G d H led (oq (fT pos (fo es Γ.env))) (Qe Γ Q)
theorem b8.nil{pos:ax}{Q:List T->St->Prop}(h:Q [] S):b8 G d Γ S pos [] Q:=λH led hs=>ae.pure ⟨[],S,aF.nil,hs,h⟩
theorem ae.spliced_cons{H:PM}{led:av}{pos:ax}{e:Expr}{es:List Expr}{env:c6}{Q:List an->PM->av->Prop}(hp:bh e=true)
  (h:ae G d H led (eval e env) λv H' l=>ae G d H' l (oq (fT pos (fo es env))) λvs H2 l2=>Q (v::vs) H2 l2):ae G d H led (oq (fT pos (fo (e::es) env))) Q:=by
 rw[w6 hp]
 show ae G d H led (oq ((false,eval e env)::fT pos (fo es env))) Q
 rw[oq]
 refine ae.bind (h.mono λv H' l le h'=>?_)
 exact ae.bind (ae.pure (ae.bind (ae.holding (h'.mono λvs H2 l2 aV q=>ae.pure q))))
theorem b8.cons{pos:ax}{e:Expr}{es:List Expr}{Q:List T->St->Prop}(hp:bh e=true)(h:Ev G d Γ S e λt S1=>b8 G d Γ S1 pos es λts S2=>Q (t::ts) S2):b8 G d Γ S pos (e::es) Q:=
 λH led hs=>ae.spliced_cons hp ((h H led hs).mono λv H' l le a=>by obtain⟨t,S1,rt,s1,q⟩:=a;exact((q H' l s1).mono λvs H2 l2 b a=>by obtain⟨ts,S2,rs,s2,q2⟩:=a;exact(⟨t::ts,S2,.cons (rt.mono b) rs,s2,q2⟩)))
set_option genCtorIdx false in
inductive R where
 |fr (t:T)
 |ow (a:aw) (ts:List T)
 |dc (a:aw) (ks:List (Int×Int))
def RR(H:PM):R->an->av->Prop
 | .fr t,v,l=>VR H t v/\l=[]
 | .ow a ts,v,l=>∃vs o,v= .ref a/\aF H ts vs/\cj o vs/\ts.length<=bO/\l=[(a,o)]
 | .dc a ks,v,l=>∃o,v= .ref a/\lv H a o ks/\l=[(a,o)]
def jA(H:PM):List R->List an->av->Prop
 | [],vs,l=>vs=[]/\l=[]
 |r::rs,vs,l=>∃v bA l1 l2,vs=v::bA/\l=l1++l2/\RR H r v l1/\jA H rs bA l2
theorem RR.mono{H H':PM}(le:Le H H'){r:R}{v:an}{l:av}(h:RR H r v l):RR H' r v l:=by
 induction r with
 |fr t=>exact⟨h.1.mono le,h.2⟩
 |ow a ts=>exact let⟨vs,o,e,r,k,z,e2⟩:=h;⟨vs,o,e,r.mono le,k,z,e2⟩
 |dc a ks=>obtain⟨o,e,r,e2⟩:=h;exact⟨o,e,r.mono le,e2⟩
theorem jA.length{H:PM}: ∀{rs:List R} {vs:List an} {l:av},jA H rs vs l->vs.length=rs.length
 | [],_,_,h=>by simp only[h.1];rfl
 |_::_,_,_,⟨v,bA,l1,l2,e,e2,a,b⟩=>by simp only[e,ze,ze,jA.length b]
inductive PF(Γ:Fm)(Q:R->St->Prop)(v:an)(H':PM)(l:av):Prop
 |mk (r:R) (S':St) (l1 l2:av) (e:l=l1++l2) (rr:RR H' r v l1) (s:bd Γ S' H' l2) (q:Q r S')
def gi(G:aK)(d:Nat)(Γ:Fm)(S:St)(e:Expr)(Q:R->St->Prop):Prop:=
 ∀H led,bd Γ S H led->ae G d H led (eval e Γ.env) (PF Γ Q)
theorem gi.fr{e:Expr}{Q:R->St->Prop}(h:Ev G d Γ S e λt S'=>Q (.fr t) S'):gi G d Γ S e Q:=
 λH led hs=>(h H led hs).mono λv H' l le a=>by obtain⟨t,S',r,s,q⟩:=a;exact(⟨.fr t,S',[],l,rfl,⟨r,rfl⟩,s,q⟩)
theorem gi.ow{e:Expr}{Q:R->St->Prop}(h:b5 G d Γ S e λa ts S'=>Q (.ow a ts) S'):gi G d Γ S e Q:=
 λH led hs=>(h H led hs).mono λv H' l le b=>by obtain⟨a,vs,o,ts,S',l',ev,r,k,z,el,s,q⟩:=b;exact(⟨.ow a ts,S',[(a,o)],l',el,⟨vs,o,ev,r,k,z,rfl⟩,s,q⟩)
inductive QJ(Γ:Fm)(Q:List R->St->Prop)(vs:List an)(H':PM)(l:av):Prop
 |mk (rs:List R) (S':St) (l1 l2:av) (e:l=l1++l2) (rr:jA H' rs vs l1) (s:bd Γ S' H' l2) (q:Q rs S')
def jD(G:aK)(d:Nat)(Γ:Fm)(S:St)(pos:ax)(es:List Expr)(Q:List R->St->Prop):Prop:=
 ∀H led,bd Γ S H led->ae G d H led (oq (fT pos (fo es Γ.env))) (QJ Γ Q)
theorem jD.nil{pos:ax}{Q:List R->St->Prop}(h:Q [] S):jD G d Γ S pos [] Q:=λH led hs=>ae.pure ⟨[],S,[],led,rfl,⟨rfl,rfl⟩,hs,h⟩
theorem jD.cons{pos:ax}{e:Expr}{es:List Expr}{Q:List R->St->Prop}(hp:bh e=true)(h:gi G d Γ S e λr S1=>jD G d Γ S1 pos es λrs S2=>Q (r::rs) S2):jD G d Γ S pos (e::es) Q:=by
 intro H led hs
 refine ae.spliced_cons hp ((h H led hs).mono λv H' l le b=>?_)
 obtain⟨r,S1,l1,l2,el,rr,s1,q⟩:=b
 subst el
 refine ae.post (ae.perm (ae.frame (fr:=l1) (q H' l2 s1)) gO) λvs H2 l' i b=>?_
 obtain⟨yx,g,rs,S2,a,k2,f,c,s2,q2⟩:=b
 subst g f
 refine⟨[],(l1++a)++k2,?_,r::rs,S2,l1++a,k2,rfl,⟨v,vs,l1,a,rfl,rfl,rr.mono i,c⟩,s2,q2⟩
 simp only[L8]
 refine gO.trans ?_
 rw[dR]
theorem b5.list{es:List Expr}{pos:ax}{Q:aw->List T->St->Prop}(h:b8 G d Γ S pos es λts S1=>ts.length<=bO/\∀a,Q a ts S1):b5 G d Γ S (.List es pos) Q:=by
 intro H led hs
 refine ae.bind (ae.standAt (ae.bind ((h H led hs).mono λvs H' l le c=>?_)))
 obtain⟨ts,S1,rs,s1,hz,q⟩:=c
 have hlen:=rs.length
 refine λA s hp b fl ok sp=>tF (T:="list") (dict:=none) ?_ (by show vs.toArray.size<=bO;simpa [hlen]using hz)
 exact⟨_,b,H',(hp.objs.size,_)::l,rfl,.refl _,a5.alloc sp _ rfl,hp.objs.size,vs,_,ts,S1,l,rfl,rs,cj.mk vs 0,hz,rfl,s1,q _⟩
theorem ae.tuple{H:PM}{led:av}{vs:List an}{ts:List T}{Q:an->PM->av->Prop}(rs:aF H ts vs)(hz:ts.length<=bO)(h: ∀v H',Le H H'->VR H' (.tup ts) v->Q v H' led):ae G d H led (newTuple vs) Q:=by
 have hlen:=rs.length
 refine λA s hp a fl ok sp=>tF (T:="tuple") (dict:=none) ?_ (by show vs.toArray.size<=bO;simpa [hlen]using hz)
 refine aj λc=>?_
 obtain⟨H',le,ha,b⟩:=a5.freeze (a5.alloc sp {cls:=.type "tuple",dict:=none,data:=.seq vs.toArray} rfl)
 refine c ?_
 exact⟨_,a,H',led,rfl,le,b,h _ H' le (⟨_,vs,_,rfl,ha,iS.mk vs 0,rs.mono le⟩)⟩
theorem Ev.tuple{es:List Expr}{k:Nat}{pos:ax}{Q:T->St->Prop}(h:b8 G d Γ S pos es λts S1=>ts.length<=bO/\Q (.tup ts) S1):Ev G d Γ S (.Tuple es k pos) Q:=by
 intro H led hs
 refine ae.bind (ae.standAt (ae.bind ((h H led hs).mono λvs H' l le a=>?_)))
 obtain⟨ts,S1,rs,s1,hz,q⟩:=a
 exact ae.tuple rs hz λv H2 b rv=>⟨.tup ts,S1,rv,s1.mono b,q⟩
noncomputable def io(ts:List T)(k:Int):Option T:=if 0<=k then ts[k.toNat]? else if -(ts.length:Int)<=k then ts[(k+ts.length).toNat]? else none
theorem CU{hp:bo}{a:aw}{vs:List an}{ts:List T}{H:PM}{k:Int}{u:Tok}{t:T}{A:gq}{s:bt}{Q:an->bt->Prop}{E:an->bt->Prop}
  (hl:s.heap.IsList a vs.toArray) (rs:aF H ts vs) (hz:ts.length<=bO) (hi:io ts k=some t) (h: ∀v,VR H t v->Q v s):cW G.M A (zf (.ref a) (.int k u)) Q E s:=by
 have hlen:=rs.length
 simp only[eA]at hz
 unfold io at hi
 split at hi
 ·rename_i h0
  refine aj λc=>?_
  obtain⟨v,b,rv⟩:=rs.get hi
  refine c ?_
  have :=(gv.mp b).1
  exact wpAny_getItem_list hl h0 (by trivial) (by simpa using b) (h v rv)
 ·split at hi
  ·rename_i h0 h1
   obtain⟨v,b,rv⟩:=rs.get hi
   exact wpAny_getItem_list_neg hl (by trivial) (by simp only[j9,hlen];exact h1) (by trivial) (by simpa [hlen]using b) (h v rv)
  ·cases hi
theorem Om{a:aw}{vs:List an}{ts:List T}{H:PM}{k:Int}{u:Tok}{t:T}{A:gq}{s:bt}{Q:an->bt->Prop}{E:an->bt->Prop}
  (hl:IsTup s.heap a vs.toArray) (rs:aF H ts vs) (hk: -1000<=k/\k<=1000) (hi:io ts k=some t) (h: ∀v,VR H t v->Q v s):cW G.M A (zf (.ref a) (.int k u)) Q E s:=by
 have hlen:=rs.length
 unfold io at hi
 split at hi
 ·rename_i h0
  refine aj λd=>?_
  obtain⟨v,b,rv⟩:=rs.get hi
  refine d ?_
  have c:=(gv.mp b).1
  exact Xo hl (j:=k.toNat) (by lia) (by lia) (by unfold zg;rw[j9];rw[if_neg (show ¬ k<0 by lia)];rw[if_pos (by simp;lia)]) (by simpa using b) (h v rv)
 ·split at hi
  ·rename_i h0 h1
   obtain⟨v,b,rv⟩:=rs.get hi
   have c:=(gv.mp b).1
   exact Xo hl (j:=(k+ts.length).toNat) (by lia) (by lia) (by unfold zg;rw[j9,hlen];rw[if_pos (show k<0 by trivial)];rw[if_pos (by simp;lia)]) (by simpa using b) (h v rv)
  ·cases hi
noncomputable def dM(e:Expr):Bool:=e.ctorIdx !=26
theorem Ap{e:Expr}{o i:an}(h:dM e=true):subscripted e false o i=operate [o,i] (zf o i):=by
 cases e<;>first |rfl|cases h
theorem ae.tail{H:PM}{led:av}{value slice:Expr}{o i:an}{TT id:String}{ops:List an}{Q:an->PM->av->Prop}(c:typeLookup (.type TT) "__getitem__"=aH (some (Value.builtin id)))
  (hs:subscripted slice false o i=PySem.operate ops (zf o i))
  (e: ∀(s:bt),(∀p∈led,s.heap.get? p.1=some p.2)->(∀a ob,H a=some ob->s.heap.get? a=some ob)->s.TypeIs o TT)
  (h:ae G d H led (zf o i) Q):ae G d H led (zh value slice o i) Q:=
 λA s hp b fl ok sp=>tail_any (e _ (λp f=>(sp.own p (j8 _ f)).1) sp.frz) c (h A s hp b fl ok sp) hs
theorem Ev.index{value slice:Expr}{pos:ax}{Q:T->St->Prop}(hp:dM slice=true)
  (h:Ev G d Γ S value λb S1=>Ev G d Γ S1 slice λi S2=>∃k t,i= .int k/\((∃ts,b= .list ts/\io ts k=some t)\/(∃ts,b= .tup ts/\(-1000<=k/\k<=1000)/\io ts k=some t))/\Q t S2):
  Ev G d Γ S (.Subscript value slice pos) Q:=by
 intro H led hs
 refine ae.bind ((h H led hs).mono λv H' l le f=>?_)
 obtain⟨b,S1,n,s1,q⟩:=f
 refine ae.bind (ae.holding ((q H' l s1).mono λw H2 l2 r f=>?_))
 obtain⟨i,S2,m,s2,k,t,p,hb,q2⟩:=f
 refine ae.bind (ae.standAt ?_)
 subst p
 obtain⟨u,rfl⟩:=m.int
 show ae G d H2 l2 (zh value slice v (.int k u)) _
 have c:=n.mono r
 rcases hb with⟨ts,rfl,hi⟩|⟨ts,rfl,hk,hi⟩
 ·simp only[VR]at c
  obtain⟨a,vs,o,rfl,ha,ho,hz,rs⟩:=c
  refine ae.tail (TT:="list") L9.lookup (Ap hp) (λs e hf=>(ho.isList (hf _ _ ha)).typeIs) ?_
  exact ae.read λA s ok g j e hf=>CU (hp:=g) (ho.isList (hf _ _ ha)) rs hz hi λv rv=>⟨⟨_,rfl⟩,t,S2,rv,s2,q2⟩
 ·simp only[VR]at c
  obtain⟨a,vs,o,rfl,ha,ho,rs⟩:=c
  refine ae.tail (TT:="tuple") slot_tuple_getitem.lookup (Ap hp) (λs e hf=>(ho.isTup (hf _ _ ha)).typeIs) ?_
  exact ae.read λA s ok g j e hf=>Om (ho.isTup (hf _ _ ha)) rs hk hi λv rv=>⟨⟨_,rfl⟩,t,S2,rv,s2,q2⟩
theorem Ev.indexOwn{x:ag}{p:ax}{slice:Expr}{pos:ax}{a:aw}{jt:List T}{Q:T->St->Prop}(hp:dM slice=true)(ho:dp Γ S x a jt)
  (h:Ev G d Γ S slice λi S2=>∃k t ts,i= .int k/\dp Γ S2 x a ts/\io ts k=some t/\Q t S2):
  Ev G d Γ S (.Subscript (.Name x p) slice pos) Q:=by
 intro H led hs
 refine ae.bind (dp.read hs ho ?_)
 refine ae.bind (ae.holding ((h H led hs).mono λw H2 l2 aV m=>?_))
 refine aj λc=>?_
 obtain⟨i,S2,f,s2,k,t,ts,l,g,hi,q2⟩:=m
 refine c ?_
 refine ae.bind (ae.standAt ?_)
 subst l
 obtain⟨u,rfl⟩:=f.int
 refine aj λc=>?_
 obtain⟨vs,o,hm,rs,hl,hz⟩:=g.obj s2
 refine c ?_
 refine ae.tail (TT:="list") L9.lookup (Ap hp) (λs b e=>(hl.isList (b _ hm)).typeIs) ?_
 exact ae.read λA s ok j tk b e=>CU (hp:=j) (hl.isList (b _ hm)) rs hz hi λv rv=>⟨⟨_,rfl⟩,t,S2,rv,s2,q2⟩
end
section
variable {G:aK} {d:Nat} {Γ:Fm} {S:St}
def rN(G:aK)(f:ag):Prop:=∃a o fd,G.mg f=some (.ref a)/\G.hB.get? a=some o/\o.data= .func fd
def gh(G:aK)(d:Nat)(f:ag)(ts:List T)(Q:T->Prop):Prop:=
 ∃a,G.mg f=some (.ref a)/\∀H vs,aF H ts vs->ae G d H [] (fU (.ref a) vs) λv H' l=>l=[]/\∃t,VR H' t v/\Q t
theorem gh.mono{f:ag}{ts:List T}{Q Q':T->Prop}(h:gh G d f ts Q)(hq: ∀t,Q t->Q' t):gh G d f ts Q':=
 let⟨a,e,k⟩:=h;⟨a,e,λH vs r=>(k H vs r).mono λv H' l le b=>by obtain⟨e,t,rt,q⟩:=b;exact(⟨e,t,rt,hq t q⟩)⟩
def sI(G:aK)(d:Nat)(f:ag)(bs ts:List T)(Q:T->List T->Prop):Prop:=
 ∃a,G.mg f=some (.ref a)/\∀H b bv ob vs,aF H bs bv->cj ob bv->bs.length<=bO->aF H ts vs->
  ae G d H [(b,ob)] (fU (.ref a) (.ref b::vs)) λv H' l=>∃t cx c e,VR H' t v/\aF H' cx c/\cj e c/\cx.length<=bO/\l=[(b,e)]/\Q t cx
theorem ae.evalArgs{H:PM}{led:av}{f:an}{pos:ax}{e:Expr}{es:List Expr}{env:c6}{Q:Args->PM->av->Prop}(hp:bh e=true)
  (h:ae G d H led (oq (fT pos (fo (e::es) env))) λvs H' l=>Q ⟨vs,[]⟩ H' l):ae G d H led (PySem.evalArgs f true (fT pos (fo (e::es) env)) []) Q:=by
 rw[w6 hp]at h ⊢
 exact λA s hp a fl ok sp=>Calls.evalArgs_plain (h A s hp a fl ok sp)
theorem Ab{es:List Expr}{env:c6}{pos:ax}(h:es.all bh=true):(fT pos (fo es env)).any (·.1)=false:=by
 induction es with
 |nil=>rfl
 |cons e es a=>
  simp only[rd,cO]at h
  rw[w6 h.1]
  show(false ||(fT pos (fo es env)).any (·.1))=false
  rw[a h.2];rfl
theorem ae.callFn{H:PM}{led:av}{pos:ax}{a:aw}{o:bn}{fd:FuncData}{e:Expr}{es:List Expr}{env:c6}{Q:an->PM->av->Prop}(hp:(e::es).all bh=true)
  (ho:G.hB.get? a=some o) (hd:o.data= .func fd)
  (h:ae G d H led (oq (fT pos (fo (e::es) env))) λvs H' l=>ae G d H' l (fU (.ref a) vs) Q):
  ae G d H led (EU pos (.ref a) [] (fT pos (fo (e::es) env)) []) Q:=by
 have m:bh e=true:=by simp only[rd,cO]at hp;exact hp.1
 intro A s n k fl ok sp
 refine Calls.callWith_function (o:=o) (fd:=fd) ?_
 refine eg (ae.evalArgs (f:=.ref a) (Q:=λx H' l=>ae G d H' l (fU (.ref a) x.pos) Q/\x.kw=[]) m (h.mono λvs H' l le q=>⟨q,rfl⟩) A s n k fl ok sp)
  (λx s' ⟨h',aU,H',l,e,le,g,q,i⟩=>?_) λc c x=>x
 obtain⟨xp,xk⟩:=x
 dsimp only at i q
 subst i e
 refine⟨⟨g.frz _ _ (g.base _ _ ho),hd⟩,?_⟩
 exact eg (q A s h' aU fl ok g) (λb pJ j=>by obtain⟨h2,p,H2,l2,e2,r,S2,q2⟩:=j;exact(⟨h2,p,H2,l2,e2,le.trans r,S2,q2⟩)) λc c x=>x
theorem Ev.call{f:ag}{p pos:ax}{e:Expr}{es:List Expr}{Q:T->St->Prop}(hf:rN G f)(hk:Γ.env.kindOf f=some .globalImplicit)(hd:(f==("__debug__":ag))=false)(hp:(e::es).all bh=true)
  (h:b8 G d Γ S pos (e::es) λts S1=>gh G d f ts λt=>Q t S1):Ev G d Γ S (.Call (.Name f p) (e::es) [] pos) Q:=by
 intro H led hs
 refine aj λb=>?_
 obtain⟨a,o,fd,hg,ho,n⟩:=hf
 refine b ?_
 refine ae.bind (ae.gname hs (.inl hg) hk hd ?_)
 refine ae.callFn hp ho n ((h H led hs).mono λvs H' l le i=>?_)
 refine aj λb=>?_
 obtain⟨ts,S1,rs,s1,m,c,k⟩:=i
 obtain rfl:a=m:=by rw[hg]at c;cases c;rfl
 refine b ?_
 exact(ae.frame (fr:=l) (k H' vs rs)).mono λv H2 l' j ⟨yx,g,e0,t,rt,q⟩=>by subst e0 g;exact⟨t,S1,rt,s1.mono j,q⟩
inductive iW(Γ:Fm):St->ag->aw->List T->(List T->St->Prop)->Prop
 |l {S x a ts}:At S.l x (.own a ts) (.own a ts) S.l->iW Γ S x a ts λts' S'=>∃σ',At S.l x (.own a ts) (.own a ts') σ'/\S'=⟨σ',S.c⟩
 |c {S x a ts}:At S.c x (.own a ts) (.own a ts) S.c->iW Γ S x a ts λts' S'=>∃σ',At S.c x (.own a ts) (.own a ts') σ'/\S'=⟨S.l,σ'⟩
inductive rK{α:Type}(A:α->Prop)(H:PM)(a:aw)(bA:List an)(r:α)(H':PM)(l:av):Prop
 |mk (hA:A r) (e:H'=H) (o':bn) (el:l=[(a,o')]) (lo:cj o' bA)
inductive Uw(Γ:Fm)(a:aw)(ts:List T)(R:List T->St->Prop)(H:PM)(led:av):Prop
 |mk (vs:List an) (o:bn) (r:av) (hp:led.Perm ((a,o)::r)) (rs:aF H ts vs) (lo:cj o vs) (hz:ts.length<=bO)
  (close: ∀ts' S',R ts' S'->∀H' bA o',Le H H'->aF H' ts' bA->cj o' bA->ts'.length<=bO->∃bV,bV.Perm ((a,o')::r)/\bd Γ S' H' bV)
theorem iW.open{x:ag}{a:aw}{ts:List T}{R:List T->St->Prop}{H:PM}{led:av}(hs:bd Γ S H led)(hm:iW Γ S x a ts R):
  Uw Γ a ts R H led:=by
 induction hm with
 |l i=>
  refine aj λh=>?_
  obtain⟨oL,m,l2,r,hp,hn,⟨vs,o,hm,d,ho,hz,rfl⟩,k⟩:=hs.openL i
  refine h ?_
  refine⟨vs,o,(Γ.env.locals,oL)::r,hp,d,ho,hz,λts' S' ⟨σ',g,e⟩ H' bA o' le cG f b=>?_⟩
  subst e
  exact k _ _ g H' oL m [(a,o')] le hn (λj j=>rfl) ⟨bA,o',hm,cG,f,b,rfl⟩
 |c i=>
  refine aj λh=>?_
  obtain⟨c,oc,vo,l2,r,h1,h2,hp,⟨vs,o,hm,d,ho,hz,rfl⟩,k⟩:=hs.openC i
  refine h ?_
  refine⟨vs,o,(c,oc)::r,hp,d,ho,hz,λts' S' ⟨σ',g,e⟩ H' bA o' le cG f b=>?_⟩
  subst e
  exact k _ _ g H' oc vo [(a,o')] le h2 ⟨bA,o',hm,cG,f,b,rfl⟩
theorem iW.act{α:Type}{x:ag}{a:aw}{ts ts':List T}{R:List T->St->Prop}{H:PM}{led:av}{t:bX α}{Q:α->PM->av->Prop}{S':St}(hm:iW Γ S x a ts R)(hs:bd Γ S H led)(hR:R ts' S')(hz:ts'.length<=bO)
  (h: ∀vs o,aF H ts vs->cj o vs->ts.length<=bO->∃(bA:List an) (A:α->Prop),(∀H',Le H H'->aF H' ts' bA)/\ae G d H [(a,o)] t (rK A H a bA)/\∀r H' l,Le H H'->A r->bd Γ S' H' l->Q r H' l):ae G d H led t Q:=by
 refine aj λb=>?_
 obtain⟨vs,o,r,e,rs,hl,f,close⟩:=hm.open hs
 obtain⟨bA,A,g,run,k⟩:=h vs o rs hl f
 refine b ?_
 refine ae.perm (ae.post (ae.frame (fr:=r) run) λw H2 l' c n=>?_) e
 refine aj λb=>?_
 obtain⟨yx,j,hA,e0,o',el,i⟩:=n
 obtain⟨bV,m,s3⟩:=close ts' S' hR H2 bA o' c (g H2 c) i hz
 refine b ?_
 exact⟨[],bV,by rw[j,el];exact m.symm,k w H2 bV c hA s3⟩
inductive z6(Γ:Fm)(x:ag)(a:aw)(c:T)(K:St->Prop)(j:T)(S2:St):Prop
 |mk (k:Int) (ts:List T) (R:List T->St->Prop) (S3:St) (ej:j= .int k) (hm:iW Γ S2 x a ts R) (h0:0<=k) (h1:k<ts.length) (hR:R (ts.set k.toNat c) S3) (q:K S3)
inductive uU(G:aK)(d:Nat)(Γ:Fm)(x:ag)(i:Expr)(c:T)(S:St)(K:St->Prop):Prop
 |mk (a:aw) (jt:List T) (ho:dp Γ S x a jt) (h:Ev G d Γ S i (z6 Γ x a c K))
theorem Ev.callB{f x:ag}{p j pos:ax}{es:List Expr}{b:aw}{c:List T}{Q:T->St->Prop}(hf:rN G f)(hk:Γ.env.kindOf f=some .globalImplicit)(hd:(f==("__debug__":ag))=false)(hp:es.all bh=true)
  (ho:dp Γ S x b c)
  (h:b8 G d Γ S pos es λts S1=>∃bs R,iW Γ S1 x b bs R/\sI G d f bs ts λt cx=>∃S2,R cx S2/\Q t S2):Ev G d Γ S (.Call (.Name f p) (.Name x j::es) [] pos) Q:=by
 intro H led hs
 refine aj λe=>?_
 obtain⟨a,o,fd,hg,s,D⟩:=hf
 refine e ?_
 refine ae.bind (ae.gname hs (.inl hg) hk hd ?_)
 refine ae.callFn (by simpa [bh,Expr.ctorIdx]using hp) s D (ae.spliced_cons rfl (dp.read hs ho ?_))
 refine(h H led hs).mono λvs H' l le g=>?_
 refine aj λe=>?_
 obtain⟨ts,S1,rs,s1,bs,R,hm,C,i,k⟩:=g
 obtain rfl:a=C:=by rw[hg]at i;cases i;rfl
 obtain⟨bv,ob,r,m,n,hl,hz,close⟩:=hm.open s1
 refine e ?_
 refine ae.perm (ae.post (ae.frame (fr:=r) (k H' b bv ob vs n hl hz rs)) λv H2 l' B g=>?_) m
 refine aj λe=>?_
 obtain⟨yx,y,t,cx,u,w,rt,rv,lo,z,e0,S2,hR,q⟩:=g
 refine e ?_
 subst e0 y
 obtain⟨bV,A,s2⟩:=close cx S2 hR H2 u w B rv lo z
 exact⟨[],bV,by simpa using A.symm,t,S2,rt,s2,q⟩
def cY(G:aK)(d:Nat)(f:an)(ts:List T)(t:T):Prop:=∀H vs,aF H ts vs->cA G d H (fU f vs) t
def wT(G:aK)(d:Nat)(f:an)(ts:List T)(us:List T):Prop:=∀H vs,aF H ts vs->nC G d H (fU f vs) us
inductive pD:an->Prop
 |b (id:String):pD (.builtin id)
 |t (T:String):pD (.type T)
theorem ae.callBuiltin{H:PM}{led:av}{pos:ax}{f:an}{e:Expr}{es:List Expr}{env:c6}{Q:an->PM->av->Prop}(hb:pD f)(hp:(e::es).all bh=true)
  (h:ae G d H led (oq (fT pos (fo (e::es) env))) λvs H' l=>ae G d H' l (fU f vs) Q):
  ae G d H led (EU pos f [] (fT pos (fo (e::es) env)) []) Q:=by
 have k:bh e=true:=by simp only[rd,cO]at hp;exact hp.1
 intro A s i g fl ok sp
 have key:cW G.M A (PySem.evalArgs f true (fT pos (fo (e::es) env)) []) (λa m=>cW G.M A (fU f ([]++a.pos) a.kw)
   (λa s'=>RP G s fl H (Q a) s') (λc c=>False) m) (λc c=>False) {s with heap:=i,toks:=g}:=by
  refine eg (ae.evalArgs (f:=f) (Q:=λx H' l=>ae G d H' l (fU f x.pos) Q/\x.kw=[]) k (h.mono λvs H' l le q=>⟨q,rfl⟩) A s i g fl ok sp)
   (λx s' ⟨h',aU,H',l,e,le,n,q,j⟩=>?_) λc c x=>x
  obtain⟨xp,xk⟩:=x
  dsimp only at j q
  subst j e
  exact eg (q A s h' aU fl ok n) (λb pJ ⟨h2,o,H2,l2,e2,p,S2,q2⟩=>⟨h2,o,H2,l2,e2,le.trans p,S2,q2⟩) λc c x=>x
 induction hb with
 |b id=>exact Calls.callWith_builtin (Ab hp) key
 |t TT=>exact PyProof.Rows.callWith_type (Ab hp) key
theorem Ev.callBuiltin{f:ag}{v:an}{p pos:ax}{e:Expr}{es:List Expr}{Q:T->St->Prop}(hg:cI G f v)(hb:pD v)(hk:Γ.env.kindOf f=some .globalImplicit)(hd:(f==("__debug__":ag))=false)(hp:(e::es).all bh=true)
  (h:b8 G d Γ S pos (e::es) λts S1=>∃t,cY G d v ts t/\Q t S1):Ev G d Γ S (.Call (.Name f p) (e::es) [] pos) Q:=by
 intro H led hs
 refine ae.bind (ae.gname hs hg hk hd ?_)
 exact ae.callBuiltin hb hp ((h H led hs).mono λvs H' l le a=>by obtain⟨ts,S1,rs,s1,t,hc,q⟩:=a;exact((hc H' vs rs).run λv H2 b rv=>⟨t,S1,rv,s1.mono b,q⟩))
theorem b5.callBuiltin{f:ag}{v:an}{p pos:ax}{e:Expr}{es:List Expr}{Q:aw->List T->St->Prop}(hg:cI G f v)(hb:pD v)(hk:Γ.env.kindOf f=some .globalImplicit)(hd:(f==("__debug__":ag))=false)(hp:(e::es).all bh=true)
  (h:b8 G d Γ S pos (e::es) λts S1=>∃us,wT G d v ts us/\∀a,Q a us S1):b5 G d Γ S (.Call (.Name f p) (e::es) [] pos) Q:=by
 intro H led hs
 refine ae.bind (ae.gname hs hg hk hd ?_)
 exact ae.callBuiltin hb hp ((h H led hs).mono λvs H' l le b=>by obtain⟨ts,S1,rs,s1,us,hc,q⟩:=b;exact((hc H' vs rs).run λa bA o H2 c rv hl hz=>⟨a,bA,o,us,S1,l,rfl,rv,hl,hz,rfl,s1.mono c,q a⟩))
theorem cY.len{ts:List T}:cY G d (.builtin "len") [.list ts] (.int ts.length):=λH vs rs=>by
 refine aj λb=>?_
 obtain⟨v,bA,rfl,rv,rfl⟩:=rs
 obtain⟨a,vs,o,rfl,ha,ho,hz,rs⟩:=rv
 refine b ?_
 have hlen:=rs.length
 simp only[eA]at hz
 refine cA.read λA s ok hp tk hf z_=>call_len_list (ho.isList (hf _ _ ha)) (by rw[j9];lia) ⟨⟨_,rfl⟩,?_⟩
 rw[j9,hlen]
 exact VR.ofInt
theorem cY.abs{i:Int}:cY G d (.builtin "abs") [.int i] (.int i.natAbs):=λH vs rs=>by
 obtain⟨v,bA,rfl,rv,rfl⟩:=rs
 obtain⟨t,rfl⟩:=rv.int
 refine cA.read λA s ok hp a hf z_=>call_abs_int λu a=>⟨⟨_,rfl⟩,?_⟩
 rw[show((i.natAbs:Nat):Int)=if i<0 then -i else i by split<;>lia]
 exact VR.ofInt
theorem cY.max2{i j:Int}:cY G d (.builtin "max") [.int i,.int j] (.int (max i j)):=λH vs rs=>by
 obtain⟨v,bA,rfl,rv,w,DP,rfl,a,rfl⟩:=rs
 obtain⟨t,rfl⟩:=rv.int
 obtain⟨u,rfl⟩:=a.int
 refine cA.grow λA s ok hp tk hf z_=>max_two_ints ok.1 λh' aU hk=>⟨⟨h',aU,hk,rfl⟩,?_⟩
 by_cases c:j>i
 ·rw[if_pos c,show max i j=j by lia];exact VR.ofInt
 ·rw[if_neg c,show max i j=i by lia];exact VR.ofInt
theorem cY.min2{i j:Int}:cY G d (.builtin "min") [.int i,.int j] (.int (min i j)):=λH vs rs=>by
 obtain⟨v,bA,rfl,rv,w,DP,rfl,a,rfl⟩:=rs
 obtain⟨t,rfl⟩:=rv.int
 obtain⟨u,rfl⟩:=a.int
 refine cA.grow λA s ok hp tk hf z_=>min_two_ints ok.1 λh' aU hk=>⟨⟨h',aU,hk,rfl⟩,?_⟩
 by_cases c:j<i
 ·rw[if_pos c,show min i j=j by lia];exact VR.ofInt
 ·rw[if_neg c,show min i j=i by lia];exact VR.ofInt
theorem wT.list{ts:List T}:wT G d (.type "list") [.list ts] ts:=λH vs rs=>by
 refine aj λe=>?_
 obtain⟨v,bA,rfl,rv,rfl⟩:=rs
 obtain⟨a,vs,o,rfl,ha,ho,hz,rs⟩:=rv
 refine e ?_
 have hlen:=rs.length
 refine nC.grow λA s ok hp b hf z_=>?_
 obtain⟨n,hn⟩:=ho.isL (hf _ _ ha)
 exact call_list_seq a (.inl rfl) hn rfl rfl (λh' c hk hg=>⟨h',b,_,vs,_,hk,rfl,rfl,qJ,hg,⟨c,rfl⟩,hz,rs⟩) (by simp only[j9,hlen];exact hz)
theorem Ev.lenOwn{x:ag}{p p2 pos:ax}{a:aw}{ts:List T}{Q:T->St->Prop}(hg:cI G "len" (.builtin "len"))(hk:Γ.env.kindOf "len"=some .globalImplicit)(ho:dp Γ S x a ts)(h:Q (.int ts.length) S):
  Ev G d Γ S (.Call (.Name "len" p) [.Name x p2] [] pos) Q:=by
 intro H led hs
 refine ae.bind (ae.gname hs hg hk (by decide) ?_)
 refine ae.callBuiltin (.b _) rfl (ae.spliced_cons rfl (dp.read hs ho (ae.pure ?_)))
 refine aj λe=>?_
 obtain⟨vs,o,hm,rs,hl,hz⟩:=ho.obj hs
 refine e ?_
 have hlen:=rs.length
 simp only[eA]at hz
 refine ae.read λA s ok hh tk c z_=>call_len_list (hl.isList (c _ hm)) (by rw[j9];lia) ⟨⟨_,rfl⟩,.int ts.length,S,?_,hs,h⟩
 rw[j9,hlen]
 exact VR.ofInt
inductive ee(Γ:Fm):St->ag->R->St->Prop
 |lf {S x s t σ'}:At S.l x s (.val t) σ'->ee Γ S x (.fr t) ⟨σ',S.c⟩
 |lo {S x s a ts σ'}:At S.l x s (.own a ts) σ'->ee Γ S x (.ow a ts) ⟨σ',S.c⟩
 |cf {S x s t σ'}:At S.c x s (.val t) σ'->Γ.env.kindOf x=some .cell->ee Γ S x (.fr t) ⟨S.l,σ'⟩
 |co {S x s a ts σ'}:At S.c x s (.own a ts) σ'->Γ.env.kindOf x=some .cell->ee Γ S x (.ow a ts) ⟨S.l,σ'⟩
 |ld {S x s a ks σ'}:At S.l x s (.dct a ks) σ'->ee Γ S x (.dc a ks) ⟨σ',S.c⟩
 |cd {S x s a ks σ'}:At S.c x s (.dct a ks) σ'->Γ.env.kindOf x=some .cell->ee Γ S x (.dc a ks) ⟨S.l,σ'⟩
theorem ae.storeL{H:PM}{x:ag}{v:an}{oL:bn}{m:ag->Option an}{env:c6}(hk:env.scope.kind= .function)(hl:env.kindOf x=some .local)(hn:jO oL m):
  ae G d H [(env.locals,oL)] (v6 env x v) λz_ H' l=>H'=H/\∃kH m',l=[(env.locals,kH)]/\jO kH m'/\m' x=some v/\∀y,y≠x->m' y=m y:=by
 intro A s hp tk fl ok sp
 have f:=(sp.own (env.locals,oL) (.head _)).1
 refine wpAny_storeName_local hl (hn.ns f) (λh' h hs=>?_) (by rw[hk];rfl)
 refine aj λi=>?_
 obtain⟨o',g,c⟩:=jO.of h
 refine i ?_
 exact⟨h',_,H,[(env.locals,o')],rfl,.refl _,a5.write sp (λb ob hb e=>(hs.2 b hb).trans e) g,rfl,o',_,rfl,c,by simp,λy a=>by simp[a]⟩
theorem ae.storeC{H:PM}{x:ag}{v:an}{c:aw}{oc:bn}{vo:Option an}{env:c6}(hk:env.scope.kind= .function)(hl:env.kindOf x=some .cell)(hc:env.cells.lookup x=some c)(ho:oc.data= .cell vo):
  ae G d H [(c,oc)] (v6 env x v) λz_ H' l=>H'=H/\∃fA,l=[(c,fA)]/\fA.data= .cell (some v):=by
 intro A s hp tk fl ok sp
 have hC:=(sp.own (c,oc) (.head _)).1
 refine wpAny_storeName_cell hk hl hc ⟨oc,hC,ho⟩ (λh' g hs=>?_)
 refine aj λh=>?_
 obtain⟨o',f,a⟩:=g
 refine h ?_
 exact⟨h',_,H,[(c,o')],rfl,.refl _,a5.write sp (λb ob hb e=>(hs.2 b hb).trans e) f,rfl,o',rfl,a⟩
theorem ae.store{H:PM}{x:ag}{r:R}{v:an}{l1 l2:av}{S':St}(hs:bd Γ S H l2)(hp:ee Γ S x r S')(hr:RR H r v l1):
  ae G d H (l1++l2) (v6 Γ.env x v) λA H' l=>H'=H/\bd Γ S' H l:=by
 have z: ∀{s s':Slot} {σ'},At S.l x s s' σ'->gf H s' (some v) l1->ae G d H (l1++l2) (v6 Γ.env x v) λA H' l=>H'=H/\bd Γ ⟨σ',S.c⟩ H l:=by
  intro s s' σ' f j
  refine aj λh=>?_
  obtain⟨oL,m,g,rr,i,hn,n,k⟩:=hs.openL f
  refine h ?_
  have pm:(l1++l2).Perm ([(Γ.env.locals,oL)]++(l1++g++rr)):=by
   refine(rf l1 i).trans ?_
   rw[← dR]
   exact e8
  refine ae.perm (ae.post (ae.frame (fr:=l1++g++rr) (ae.storeL hs.wf.kind (hs.local f).1 hn)) λu H' l le w=>?_) pm
  refine aj λh=>?_
  obtain⟨l',e,e0,kH,m',p,D,B,hm⟩:=w
  refine h ?_
  subst p e
  obtain⟨bV,t,q⟩:=k _ _ f H kH m' l1 (.refl _) D hm ((B).symm▸j)
  refine⟨g,bV,?_,e0,q⟩
  refine oj ?_ (rf g t).symm
  have a1:([(Γ.env.locals,kH)]++(l1++g++rr)).Perm ((Γ.env.locals,kH)::(g++l1++rr)):=gM _ (EW _ gO)
  refine a1.trans ?_
  rw[← dR]
  exact e8.symm
 have y: ∀{s s':Slot} {σ'},At S.c x s s' σ'->Γ.env.kindOf x=some .cell->gf H s' (some v) l1->ae G d H (l1++l2) (v6 Γ.env x v) λA H' l=>H'=H/\bd Γ ⟨S.l,σ'⟩ H l:=by
  intro s s' σ' f hk j
  refine aj λh=>?_
  obtain⟨c,oc,vo,g,rr,h1,h2,i,n,k⟩:=hs.openC f
  refine h ?_
  have pm:(l1++l2).Perm ([(c,oc)]++(l1++g++rr)):=by
   refine(rf l1 i).trans ?_
   rw[← dR]
   exact e8
  refine ae.perm (ae.post (ae.frame (fr:=l1++g++rr) (ae.storeC hs.wf.kind hk (hs.wf.cells _ _ h1 (.inl hk)) h2)) λu H' l le w=>?_) pm
  refine aj λh=>?_
  obtain⟨l',e,e0,fA,p,C⟩:=w
  refine h ?_
  subst p e
  obtain⟨bV,t,q⟩:=k _ _ f H fA (some v) l1 (.refl _) C j
  refine⟨g,bV,?_,e0,q⟩
  refine oj ?_ (rf g t).symm
  have a1:([(c,fA)]++(l1++g++rr)).Perm ((c,fA)::(g++l1++rr)):=gM _ (EW _ gO)
  refine a1.trans ?_
  rw[← dR]
  exact e8.symm
 induction hp with
 |lf f=>exact z f ⟨⟨v,rfl,hr.1⟩,hr.2⟩
 |lo f=>obtain⟨vs,o,rfl,a,b,c,e⟩:=hr;exact z f ⟨vs,o,rfl,a,b,c,e⟩
 |cf f hk=>exact y f hk ⟨⟨v,rfl,hr.1⟩,hr.2⟩
 |co f hk=>obtain⟨vs,o,rfl,a,b,c,e⟩:=hr;exact y f hk ⟨vs,o,rfl,a,b,c,e⟩
 |ld f=>obtain⟨o,rfl,a,e⟩:=hr;exact z f ⟨o,rfl,a,e⟩
 |cd f hk=>obtain⟨o,rfl,a,e⟩:=hr;exact y f hk ⟨o,rfl,a,e⟩
end
section
variable {G:aK} {d:Nat} {Γ:Fm} {S:St}
theorem ae.to{α:Type}{H:PM}{led fl:av}{t:bX α}{Q:α->PM->av->Prop}{A:gq}{s:bt}{h:bo}{b:Nat}{Q':α->bt->Prop}{E:an->bt->Prop}
  (r:ae G d H led t Q) (ok:Ok A d) (sp:a5 G h H (led++fl))
  (k: ∀a h' aU H' l,Le H H'->a5 G h' H' (l++fl)->Q a H' l->Q' a {s with heap:=h',toks:=aU}):cW G.M A t Q' E {s with heap:=h,toks:=b}:=
 eg (r A s h b fl ok sp) (λa s' ⟨h',aU,H',l,e,le,f,q⟩=>by subst e;exact k a h' aU H' l le f q) λc c x=>x.elim
inductive Ja(G:aK)(d:Nat)(tgt:Expr)(it:an)(t:T)(st:PM->av->Prop)(r:Option an)(H':PM)(l':av):Prop
 |mk (v:an) (e:r=some v) (rv:VR H' t v) (go:ae G d H' l' (tG tgt it v) λz_ H2 l2=>st H2 l2)
structure f8(G:aK)(d:Nat)(tgt:Expr)(it:an)(bl:List T)(st:Nat->PM->av->Prop):Prop where
 mono: ∀k H H' l,Le H H'->st k H l->st k H' l
 item: ∀k t H l,bl[k]? =some t->st k H l->ae G d H l (tH it) (Ja G d tgt it t (st (k+1)))
 done: ∀H l,st bl.length H l->ae G d H l (tH it) λr H' l'=>r=none
 again: ∀k H l,st k H l->ae G d H l (wa it) λv H' l'=>v=it/\H'=H/\l'=l
noncomputable def fN(e:Expr):Bool:=e.ctorIdx==24 ||e.ctorIdx==25
theorem BL(tgt:Expr)(it v:an):tG tgt it v=bif fN tgt then tG (.Tuple [] 0 default) it v else pure ():=by cases tgt<;>rfl
theorem CB{tgt:Expr}{it v:an}(h:fN tgt=false):tG tgt it v=pure ():=by rw[BL,h];rfl
inductive Kr(I a:aw)(ts:List T)(k:Nat)(H:PM)(l:av):Prop
 |mk (o:bn) (vs:List an) (ol:bn) (e:l=[(I,o)]) (c:o.cls= .type "list_iterator") (dd:o.data= .fields #[.ref a,.int k 0]) (ha:H a=some ol) (hl:cj ol vs) (rs:aF H ts vs)
inductive BF{α:Type}(H:PM)(I:aw)(hp:bo)(s:bt)(Q:α->PM->av->Prop)(a:α)(s':bt):Prop
 |mk (h':bo) (aU:Nat) (o':bn) (e:s'={s with heap:=h',toks:=aU}) (hk: ∀b ob,b≠I->hp.get? b=some ob->h'.get? b=some ob) (ho:h'.get? I=some o') (q:Q a H [(I,o')])
inductive No{α:Type}(H:PM)(I:aw)(hp:bo)(s:bt)(Q:α->PM->av->Prop)(a:α)(s':bt):Prop
 |mk (h':bo) (aU:Nat) (e:s'={s with heap:=h',toks:=aU}) (hk: ∀b ob,b≠I->hp.get? b=some ob->h'.get? b=some ob) (q:Q a H [])
theorem a5.ne1{h:bo}{H:PM}{a b:aw}{o ob:bn}{l:av}(S:a5 G h H ((a,o)::l))(e:H b=some ob):b≠a:=λz=>by
 have hn:H a=none:=(S.own (a,o) (.head _)).2
 simp only[z,hn]at e;cases e
theorem ae.owned1{α:Type}{H:PM}{I:aw}{o:bn}{t:bX α}{Q:α->PM->av->Prop}
  (h: ∀A s,Ok A d->∀(hp:bo) (c:Nat),hp.get? I=some o->(∀a ob,H a=some ob->hp.get? a=some ob/\a≠I)->
   cW G.M A t (BF H I hp s Q) (λb b=>False) {(s:bt)with heap:=hp,toks:=c}):ae G d H [(I,o)] t Q:=
 λA s hp c fl ok sp=>by
  refine eg (h A s ok hp c (sp.own (I,o) (.head _)).1 λa ob e=>⟨sp.frz a ob e,sp.ne1 e⟩) (λa s' f=>?_) λb b x=>x
  obtain⟨h',aU,o',e,hk,ho,q⟩:=f
  exact⟨h',aU,H,[(I,o')],e,.refl _,a5.write sp hk ho,q⟩
theorem ae.lost1{α:Type}{H:PM}{I:aw}{o:bn}{t:bX α}{Q:α->PM->av->Prop}
  (h: ∀A s,Ok A d->∀(hp:bo) (f:Nat),hp.get? I=some o->(∀a ob,H a=some ob->hp.get? a=some ob/\a≠I)->
   cW G.M A t (No H I hp s Q) (λc c=>False) {(s:bt)with heap:=hp,toks:=f}):ae G d H [(I,o)] t Q:=
 λA s hp f fl ok sp=>by
  refine eg (h A s ok hp f (sp.own (I,o) (.head _)).1 λa ob e=>⟨sp.frz a ob e,sp.ne1 e⟩) (λa s' j=>?_) λc c x=>x
  obtain⟨h',aU,e,hk,q⟩:=j
  have nd:=sp.nd
  refine⟨h',aU,H,[],e,.refl _,⟨sp.base,λb ob i=>?_,λp g=>?_,(dQ.mp nd).2⟩,q⟩
  ·exact hk b ob (sp.ne1 i) (sp.frz b ob i)
  ·have k:p.1≠I:=λz=>(dQ.mp nd).1 (bF.mpr ⟨p,g,z⟩)
   exact⟨hk _ _ k (sp.own p (.tail _ g)).1,(sp.own p (.tail _ g)).2⟩
theorem Ve{tgt:Expr}{H:PM}{I:aw}{o:bn}{v:an}{a:aw}{j:Nat}{Q:PUnit->PM->av->Prop}(c:o.cls= .type "list_iterator")(dd:o.data= .fields #[.ref a,.int j 0]) (q:Q PUnit.unit H [(I,o)]):ae G d H [(I,o)] (tG tgt (.ref I) v) Q:=by
 rw[BL]
 cases fN tgt with
 |false=>exact ae.of_pure rfl q
 |true=>
  refine ae.owned1 λA s ok hp f ho hf=>?_
  have fin:BF H I hp s Q PUnit.unit {s with heap:=hp,toks:=f}:=⟨hp,f,o,rfl,λb b b e=>e,ho,q⟩
  induction v with
  |ref T=>exact wpAny_letOwnedTupleGo_listiter (elts:=[]) (x1:=0) (pos:=default) ⟨o,ho,c,dd⟩ fin
  |_=>exact dq fin
theorem f8.list{tgt:Expr}{I a:aw}{ts:List T}:f8 G d tgt (.ref I) ts (Kr I a ts) where
 mono:=λk H H' l le h=>by
  obtain⟨o,vs,ol,e,c,dd,ha,hl,rs⟩:=h
  exact⟨o,vs,ol,e,c,dd,le _ _ ha,hl,rs.mono le⟩
 item:=λk t H l hk h=>by
  obtain⟨o,vs,ol,e,c,dd,ha,hl,rs⟩:=h
  subst e
  obtain⟨v,n,rv⟩:=rs.get hk
  refine ae.owned1 λA s ok hp f ho hf=>?_
  have m:=hl.isList (hf _ _ ha).1
  refine Xp (it:=I) (l:=a) (i:=k) ⟨o,ho,c,dd⟩ m (x:=v) (by simpa using n) λh' p hs=>?_
  refine aj λr=>?_
  obtain⟨o',q,j,g⟩:=p
  refine r ?_
  refine⟨h',f,o',rfl,λb ob hb e=>(hs.2 b hb).trans e,q,v,rfl,rv,?_⟩
  exact Ve j g ⟨o',vs,ol,rfl,j,g,ha,hl,rs⟩
 done:=λH l h=>by
  obtain⟨o,vs,ol,e,c,dd,ha,hl,rs⟩:=h
  subst e
  refine ae.lost1 λA s ok hp f ho hf=>?_
  have hlen:=rs.length
  exact Xq (i:=ts.length) ok.1 ⟨o,ho,c,dd⟩ (hl.isList (hf _ _ ha).1) (by simp[hlen]) λh' he=>⟨h',f,rfl,λb ob hb e=>he b ob hb e,rfl⟩
 again:=λk H l h=>by
  obtain⟨o,vs,ol,e,c,dd,ha,hl,rs⟩:=h
  subst e
  exact ae.read λA s ok hp f ho hf=>wpAny_pyIter_listiter (i:=k) ⟨o,ho (I,o) (.head _),c,dd⟩ ⟨⟨_,rfl⟩,rfl,rfl,rfl⟩
noncomputable def sU(x left step:Int):bn:={cls:=.type "range_iterator",dict:=none,data:=.fields #[tI x,tI left,tI step],slots:=#[]}
def rP(I:aw)(a c:Int)(n:Nat)(k:Nat)(H:PM)(l:av):Prop:=l=[(I,sU (a+(k:Int)*c) ((n:Int)-(k:Int)) c)]
noncomputable def jJ(a c:Int)(n:Nat):List T:=(kR n).map λ(k:Nat)=>T.int (a+(k:Int)*c)
theorem f8.range{tgt:Expr}{I:aw}{a c:Int}{n:Nat}(i:fN tgt=false):f8 G d tgt (.ref I) (jJ a c n) (rP I a c n) where
 mono:=λg g g g g e=>e
 item:=λk t H l hk e=>by
  have o:k<n:=by
   have :=(gv.mp hk).1
   simpa [jJ]using this
  have j:t= .int (a+(k:Int)*c):=by simpa [jJ,o]using hk.symm
  unfold rP at e
  subst e j
  refine ae.owned1 λA s ok hp h ho hf=>?_
  refine wpAny_pyNext_range_item ho (by lia) λh' f m=>?_
  refine⟨h',_,_,rfl,λb ob hb e=>(m.2 b hb).trans e,f,_,rfl,VR.ofInt,ae.of_pure (CB i) ?_⟩
  show [(I,_)]=[(I,sU (a+((k+1:Nat):Int)*c) ((n:Int)-((k+1:Nat):Int)) c)]
  have e1:a+((k+1:Nat):Int)*c=a+(k:Int)*c+c:=by push_cast;simp only[Ma,kS,wb]
  have e2:(n:Int)-((k+1:Nat):Int)=(n:Int)-(k:Int)-1:=by push_cast;lia
  simp only[e1,e2];rfl
 done:=λH l e=>by
  unfold rP at e
  subst e
  refine ae.lost1 λA s ok hp h ho hf=>?_
  exact wpAny_pyNext_range_end ok.1 ho (by simp[jJ]) λh' he=>⟨h',h,rfl,λb ob hb e=>he b ob hb e,rfl⟩
 again:=λk H l e=>by
  unfold rP at e
  subst e
  exact ae.read λA s ok hp h ho hf=>wpAny_pyIter_rangeiter (ho _ (.head _)) ⟨⟨_,rfl⟩,rfl,rfl,rfl⟩
inductive JF(I a:aw)(ts:List T)(k:Nat)(H:PM)(l:av):Prop
 |mk (o:bn) (vs:List an) (ol:bn) (e:l=[(I,o)]) (c:o.cls= .type "list_reverseiterator") (dd:o.data= .fields #[.ref a,tI ((ts.length:Int)-1-k)]) (hk:k<=ts.length) (ha:H a=some ol) (hl:cj ol vs) (rs:aF H ts vs)
theorem f8.rev{tgt:Expr}{I a:aw}{ts:List T}(q:fN tgt=false):f8 G d tgt (.ref I) ts.reverse (JF I a ts) where
 mono:=λk H H' l le h=>by
  obtain⟨o,vs,ol,e,c,dd,hk,ha,hl,rs⟩:=h
  exact⟨o,vs,ol,e,c,dd,hk,le _ _ ha,hl,rs.mono le⟩
 item:=λk t H l hk h=>by
  obtain⟨o,vs,ol,e,c,dd,j,ha,hl,rs⟩:=h
  subst e
  have m:k<ts.length:=by simpa using(gv.mp hk).1
  rw[List.getElem?_reverse m]at hk
  refine aj λg=>?_
  obtain⟨v,p,rv⟩:=rs.get hk
  refine g ?_
  have hlen:=rs.length
  have w:(ts.length:Int)-1-k=((ts.length-1-k:Nat):Int):=by lia
  refine ae.owned1 λA s ok hp f ho hf=>?_
  have n:=hl.isList (hf _ _ ha).1
  refine PySem.wpAny_pyNext_rev_item (it:=I) (l:=a) (i:=ts.length-1-k) ⟨o,ho,c,by rw[dd,w]⟩ n (x:=v) (by simpa using p) λh' r hs=>?_
  refine aj λg=>?_
  obtain⟨o',u,z,y⟩:=r
  refine g ?_
  refine⟨h',f,o',rfl,λb ob hb e=>(hs.2 b hb).trans e,u,v,rfl,rv,ae.of_pure (CB q) ⟨o',vs,ol,rfl,z,?_,m,ha,hl,rs⟩⟩
  rw[y,show((ts.length-1-k:Nat):Int)-1=(ts.length:Int)-1-((k+1:Nat):Int) by lia]
 done:=λH l h=>by
  obtain⟨o,vs,ol,e,c,dd,j,ha,hl,rs⟩:=h
  subst e
  refine ae.lost1 λA s ok hp f ho hf=>?_
  exact PySem.wpAny_pyNext_rev_end (l:=a) ok.1 ⟨o,ho,c,by rw[dd,Mb,show(ts.length:Int)-1-(ts.length:Int)= -1 by lia]⟩ λh' he=>⟨h',f,rfl,λb ob hb e=>he b ob hb e,rfl⟩
 again:=λk H l h=>by
  obtain⟨o,vs,ol,e,c,dd,j,ha,hl,rs⟩:=h
  subst e
  exact ae.read λA s ok hp f ho hf=>Xr (l:=a) ⟨o,ho (I,o) (.head _),c,dd⟩ ⟨⟨_,rfl⟩,rfl,rfl,rfl⟩
noncomputable def qj(it:aw)(i:Int)(old:an):bn:={cls:=.type "enumerate",dict:=none,data:=.fields #[.none,.bool false,.ref it,tI i,.none,old],slots:=#[]}
inductive Bx(e I a:aw)(ts:List T)(k:Nat)(H:PM)(l:av):Prop
 |mk (old:an) (o:bn) (vs:List an) (ol:bn) (el:l=[(e,qj I k old),(I,o)]) (c:o.cls= .type "list_iterator") (dd:o.data= .fields #[.ref a,.int k 0]) (ha:H a=some ol) (hl:cj ol vs) (rs:aF H ts vs)
noncomputable def lB(ts:List T):List T:=ts.zipIdx.map λ(p:T×Nat)=>T.tup [.int (p.2:Int),p.1]
theorem To{ts:List T}{k:Nat}{t:T}(h:(lB ts)[k]? =some t): ∃u,ts[k]? =some u/\t= .tup [.int k,u]:=by
 have b:k<ts.length:=by simpa [lB]using(gv.mp h).1
 have a:=kT b
 refine⟨_,a,?_⟩
 have :(lB ts)[k]? =some (T.tup [.int (k:Int),ts[k]]):=by simp[lB,a]
 rw[this]at h;exact(tJ h).symm
theorem a5.put2{h h':bo}{H:PM}{a b:aw}{d ob g f:bn}{l:av}(S:a5 G h H ((a,d)::(b,ob)::l))(hk: ∀c oc,c≠a->c≠b->h.get? c=some oc->h'.get? c=some oc)(ha:h'.get? a=some g)(hb:h'.get? b=some f):a5 G h' H ((a,g)::(b,f)::l):=by
 have hn:=dQ.mp S.nd
 have hm:=dQ.mp hn.2
 have nb:H b=none:=(S.own (b,ob) (.tail _ (.head _))).2
 refine⟨S.base,λc oc e=>hk c oc (S.ne1 e) (λz=>by simp only[z,nb]at e;cases e) (S.frz c oc e),λp hp=>?_,S.nd⟩
 rcases bz.mp hp with e|hp
 ·rw[e];exact⟨ha,(S.own (a,d) (.head _)).2⟩
 ·rcases bz.mp hp with e|hp
  ·rw[e];exact⟨hb,nb⟩
  ·have q:=S.own p (.tail _ (.tail _ hp))
   exact⟨hk _ _ (λz=>hn.1 (Mc _ (bF.mpr ⟨p,hp,z⟩))) (λz=>hm.1 (bF.mpr ⟨p,hp,z⟩)) q.1,q.2⟩
theorem a5.new{h h':bo}{H:PM}{o:bn}{l l':av}(S:a5 G h H l)(S':a5 G h' H l')(e:l'.map ai=l.map ai)(ho:h'.get? h.objs.size=some o):a5 G h' H ((h.objs.size,o)::l'):=by
 refine⟨S'.base,S'.frz,λp hp=>?_,?_⟩
 ·rcases bz.mp hp with e|hp
  ·rw[e]
   refine⟨ho,?_⟩
   cases q:H h.objs.size with
   |none=>rfl
   |some ob=>exact absurd (gm (S.frz _ _ q)) (jY _)
  ·exact S'.own p hp
 ·refine dQ.mpr ⟨λhm=>?_,S'.nd⟩
  simp only[e]at hm
  obtain⟨p,hp,q⟩:=bF.mp hm
  have :=gm (S.own p hp).1
  rw[q]at this;exact jY _ this
theorem Oh{tgt:Expr}{H:PM}{e I a:aw}{ts:List T}{k:Nat}{u:T}{old:an}{o ol:bn}{vs:List an}(t:ts[k]? =some u)(w:fN tgt=true)(c:o.cls= .type "list_iterator")(dd:o.data= .fields #[.ref a,.int k 0]) (ha:H a=some ol) (hl:cj ol vs) (rs:aF H ts vs):
  ae G d H [(e,qj I k old),(I,o)] (tH (.ref e)) (Ja G d tgt (.ref e) (.tup [.int k,u]) (Bx e I a ts (k+1))):=by
 refine aj λj=>?_
 obtain⟨v,r,rv⟩:=rs.get t
 refine j ?_
 intro A s hp m fl ok sp
 have J:e≠I:=λq=>(dQ.mp sp.nd).1 (q▸ .head _)
 refine wpAny_pyNext_enum_item (i:=k) (sp.own (e,qj I k old) (.head _)).1 ⟨o,(sp.own (I,o) (.tail _ (.head _))).1,c,dd⟩ (hl.isList (sp.frz _ _ ha)) (x:=v) (by simpa using r) J λh' n y f th p=>?_
 refine aj λj=>?_
 obtain⟨o',B,F,E⟩:=y
 obtain⟨H',le,z,C⟩:=a5.freeze (sp.new (sp.put2 p n B) rfl f)
 refine j ?_
 refine⟨h',_,H',[(e,_),(I,o')],rfl,le,C,.ref hp.objs.size,rfl,(⟨_,[.int k m,v],_,rfl,z,⟨rfl,0,rfl⟩,aF.cons VR.ofInt (aF.cons (rv.mono le) aF.nil)⟩),?_⟩
 rw[BL,w]
 intro A s h2 D DS pK l
 refine wpAny_letOwnedTupleGo_enum (elts:=[]) (x1:=0) (pos:=default) (l.own (e,_) (.head _)).1 λh4 h g=>?_
 exact⟨h4,D,H',[(e,qj I ((k+1:Nat):Int) v),(I,o')],rfl,.refl _,a5.write l (λb ob hb q=>(g.2 b hb).trans q) h,v,o',vs,ol,rfl,F,E,le _ _ ha,hl,rs.mono le⟩
theorem f8.enum{elts:List Expr}{r:Nat}{pos:ax}{e I a:aw}{ts:List T}:f8 G d (.Tuple elts r pos) (.ref e) (lB ts) (Bx e I a ts) where
 mono:=λk H H' l le h=>by
  obtain⟨old,o,vs,ol,el,c,dd,ha,hl,rs⟩:=h
  exact⟨old,o,vs,ol,el,c,dd,le _ _ ha,hl,rs.mono le⟩
 item:=λk t H l hk h=>by
  refine aj λy=>?_
  obtain⟨u,v,x⟩:=To hk
  obtain⟨old,o,vs,ol,el,c,dd,ha,hl,rs⟩:=h
  refine y ?_
  simp only[el,x];exact Oh v rfl c dd ha hl rs
 done:=λH l h=>by
  obtain⟨old,o,vs,ol,el,c,dd,ha,hl,rs⟩:=h
  subst el
  intro A s hp g fl ok sp
  have he:=(sp.own (e,_) (.head _)).1
  have w:=(sp.own (I,o) (.tail _ (.head _))).1
  have m:=(sp.own (I,o) (.tail _ (.head _))).2
  have hlen:=rs.length
  have n:(lB ts).length=ts.length:=by simp[lB]
  refine wpAny_pyNext_enum_end (i:=ts.length) ok.1 (by rw[n]at he;exact he) ⟨o,w,c,by rw[dd,n]⟩ (hl.isList (sp.frz _ _ ha)) (by simp[hlen]) λh' j=>?_
  have nd:=sp.nd
  simp only[mQ,L8,gr,dQ,bz,not_or]at nd
  refine⟨h',g,H,[],rfl,.refl _,⟨sp.base,λb ob q=>j b ob (λz=>?_) (sp.frz b ob q),λp f=>?_,nd.2.2⟩,rfl⟩
  ·subst z;dsimp only at m;rw[m]at q;cases q
  ·have hm:=sp.own p (by simp at f;simp[f])
   exact⟨j _ _ (λz=>nd.2.1 (bF.mpr ⟨p,by simpa using f,z⟩)) hm.1,hm.2⟩
 again:=λk H l h=>by
  obtain⟨old,o,vs,ol,el,c,dd,ha,hl,rs⟩:=h
  subst el
  refine ae.read λA s ok hp g ho hf=>wpAny_pyIter_enum (ho _ (.head _)) ⟨⟨_,rfl⟩,rfl,rfl,rfl⟩
end
section
variable {G:aK} {d:Nat} {Γ:Fm} {S:St}
inductive Pg(G:aK)(d:Nat)(Γ:Fm)(tgt:Expr)(Q:List T->St->Prop)(it:an)(H':PM)(l:av):Prop
 |mk (bl:List T) (S':St) (st:Nat->PM->av->Prop) (li ls:av) (e:l=li++ls) (i:f8 G d tgt it bl st) (z:st 0 H' li) (s:bd Γ S' H' ls) (q:Q bl S')
def ck(G:aK)(d:Nat)(Γ:Fm)(S:St)(tgt e:Expr)(Q:List T->St->Prop):Prop:=
 ∀H led,bd Γ S H led->ae G d H led (eval e Γ.env) λx H1 l1=>ae G d H1 l1 (wa x) (Pg G d Γ tgt Q)
theorem ck.list{tgt e:Expr}{Q:List T->St->Prop}(h:Ev G d Γ S e λt S1=>∃ts,t= .list ts/\Q ts S1):ck G d Γ S tgt e Q:=by
 intro H led hs
 refine(h H led hs).mono λv H1 l1 le f=>?_
 obtain⟨t,S1,rt,s1,ts,c,q⟩:=f
 subst c
 refine aj λg=>?_
 obtain⟨a,vs,o,rfl,ha,ho,hz,rs⟩:=rt
 refine g ?_
 intro A s hp b fl ok sp
 refine Md (ho.isList (sp.frz _ _ ha)) ?_
 exact⟨_,b,H1,(hp.objs.size,_)::l1,rfl,.refl _,a5.alloc sp _ rfl,ts,S1,Kr hp.objs.size a ts,[(hp.objs.size,_)],l1,rfl,f8.list,⟨_,vs,o,rfl,rfl,rfl,ha,ho,rs⟩,s1,q⟩
theorem ae.evCallB{H:PM}{led:av}{f:ag}{v:an}{p pos:ax}{e:Expr}{es:List Expr}{R:List T->St->Prop}{Q:an->PM->av->Prop}(hs:bd Γ S H led)(hg:cI G f v)(hb:pD v)(hk:Γ.env.kindOf f=some .globalImplicit)(hd:(f==("__debug__":ag))=false)(hp:(e::es).all bh=true)
  (h:b8 G d Γ S pos (e::es) R) (k: ∀ts S1 vs H' l,R ts S1->aF H' ts vs->bd Γ S1 H' l->ae G d H' l (fU v vs) Q):ae G d H led (eval (.Call (.Name f p) (e::es) [] pos) Γ.env) Q:=by
 simp only[arm_eval_Call_Name']
 refine ae.bind (ae.gname hs hg hk hd ?_)
 exact ae.callBuiltin hb hp ((h H led hs).mono λvs H' l le a=>by obtain⟨ts,S1,rs,s1,q⟩:=a;exact(k ts S1 vs H' l q rs s1))
noncomputable def xa(a b c:Int):List T:=jJ a c (kc a b c).toNat
theorem Xf(a b c:Int):0<=kc a b c:=by
 unfold kc
 split
 ·split
  ·rename_i h1 h2;exact Me (EX (by trivial) (by trivial)) (by decide)
  ·exact kU _
 ·split
  ·rename_i h1 h2;exact Me (EX (by trivial) (by trivial)) (by decide)
  ·exact kU _
theorem ae.rangeIter{H:PM}{led:av}{r:aw}{a b c:Int}{t u v:Tok}{tgt:Expr}{Q:an->PM->av->Prop}(g:fN tgt=false)(e:Xs a b c=true)
  (h: ∀I li,f8 G d tgt (.ref I) (xa a b c) (rP I a c (kc a b c).toNat)->rP I a c (kc a b c).toNat 0 H li->Q (.ref I) H (li++led)):
  ae G d H ((r,({cls:=.type "range",data:=.fields #[.int a t,.int b u,.int c v]}:bn))::led) (wa (.ref r)) Q:=by
 intro A s hp f fl ok sp
 have hr:=(sp.own (r,_) (.head _)).1
 refine wpAny_pyIter_range (r:=r) (a:=a) (b:=b) (c:=c) (t:=t) (u:=u) (v:=v) hr e ?_
 have hn:=Xf a b c
 refine⟨_,f,H,(hp.objs.size,sU a (kc a b c) c)::led,rfl,.refl _,?_,h hp.objs.size [(hp.objs.size,sU a (kc a b c) c)] (f8.range g) ?_⟩
 ·have :=a5.alloc (a5.drop (l:=[(r,_)]) sp) (sU a (kc a b c) c) rfl
  exact this
 ·show [(hp.objs.size,_)]=[(hp.objs.size,sU (a+0*c) (((kc a b c).toNat:Int)-0) c)]
  rw[Xn hn]
  simp
theorem ck.range1{tgt e:Expr}{p pos:ax}{Q:List T->St->Prop}(hg:cI G "range" (.type "range"))(hk:Γ.env.kindOf "range"=some .globalImplicit)(g:fN tgt=false)(hp:bh e=true)
  (h:Ev G d Γ S e λt S1=>∃n,t= .int n/\n<2^62/\ -(2^62)<=n/\Q (jJ 0 1 n.toNat) S1):ck G d Γ S tgt (.Call (.Name "range" p) [e] [] pos) Q:=by
 intro H led hs
 refine ae.evCallB (e:=e) (es:=[]) (R:=λts S1=>∃n,ts=[.int n]/\n<2^62/\ -(2^62)<=n/\Q (jJ 0 1 n.toNat) S1) hs hg (.t _) hk (by decide) (by simp[hp])
  (b8.cons hp (h.mono λt S1 c=>by obtain⟨n,e,a,b,q⟩:=c;exact(b8.nil ⟨n,by rw[e],a,b,q⟩))) ?_
 rintro ts S1 vs H' l ⟨n,rfl,h1,h2,q⟩ rs s1
 obtain⟨v,bA,rfl,rv,rfl⟩:=rs
 obtain⟨t,rfl⟩:=rv.int
 intro A s i tk fl ok sp
 refine PySem.call_range_1 ?_
 refine⟨_,_,H',(i.objs.size,_)::l,rfl,.refl _,a5.alloc sp _ rfl,?_⟩
 refine ae.rangeIter g (small_one (by trivial) (by trivial) (by trivial) (by trivial)) λI li it f=>⟨_,S1,_,li,l,rfl,it,f,s1,?_⟩
 have e:(kc 0 n 1).toNat=n.toNat:=by rw[rangeSize_one];split<;>trivial
 unfold xa;rw[e];exact q
theorem ck.range2{tgt e e2:Expr}{p pos:ax}{Q:List T->St->Prop}(hg:cI G "range" (.type "range"))(hk:Γ.env.kindOf "range"=some .globalImplicit)(i:fN tgt=false)(hp:bh e=true)(b:bh e2=true)
  (h:Ev G d Γ S e λt S1=>Ev G d Γ S1 e2 λu S2=>∃m n,t= .int m/\u= .int n/\(-(2^62)<=m/\m<2^62/\ -(2^62)<=n/\n<2^62)/\Q (jJ m 1 (n-m).toNat) S2):ck G d Γ S tgt (.Call (.Name "range" p) [e,e2] [] pos) Q:=by
 intro H led hs
 refine ae.evCallB (e:=e) (es:=[e2]) (R:=λts S1=>∃m n,ts=[.int m,.int n]/\(-(2^62)<=m/\m<2^62/\ -(2^62)<=n/\n<2^62)/\Q (jJ m 1 (n-m).toNat) S1) hs hg (.t _) hk (by decide) (by simp[hp,b])
  (b8.cons hp (h.mono λt S1 h2=>b8.cons b (h2.mono λu S2 c=>by obtain⟨m,n,e,k,a,q⟩:=c;exact(b8.nil ⟨m,n,by rw[e,k],a,q⟩)))) ?_
 rintro ts S1 vs H' l ⟨m,n,rfl,⟨h1,h2,h3,h4⟩,q⟩ rs s1
 obtain⟨v,bA,rfl,rv,w,DP,rfl,f,rfl⟩:=rs
 obtain⟨t,rfl⟩:=rv.int
 obtain⟨t2,rfl⟩:=f.int
 intro A s j tk fl ok sp
 refine PySem.call_range_2 ?_
 refine⟨_,_,H',(j.objs.size,_)::l,rfl,.refl _,a5.alloc sp _ rfl,?_⟩
 refine ae.rangeIter i (small_one (by trivial) (by trivial) (by trivial) (by trivial)) λI li it g=>⟨_,S1,_,li,l,rfl,it,g,s1,?_⟩
 have e:(kc m n 1).toNat=(n-m).toNat:=by rw[rangeSize_one];split<;>trivial
 unfold xa;rw[e];exact q
theorem Ix(a b:Int):kc a b (-1)=if a>b then a-b else 0:=by
 unfold kc
 simp only[show ¬ ((-1)>0) by decide,if_false]
 split<;>simp<;>lia
theorem ck.range3{tgt e e2 b:Expr}{p pos:ax}{Q:List T->St->Prop}(hg:cI G "range" (.type "range"))(hk:Γ.env.kindOf "range"=some .globalImplicit)(r:fN tgt=false)(hp:bh e=true)(g:bh e2=true)(i:bh b=true)
  (h:Ev G d Γ S e λt S1=>Ev G d Γ S1 e2 λu S2=>Ev G d Γ S2 b λw S3=>∃m n,t= .int m/\u= .int n/\w= .int (-1)/\(-(2^61)<=m/\m<2^61/\ -(2^61)<=n/\n<2^61)/\Q (jJ m (-1) (m-n).toNat) S3):ck G d Γ S tgt (.Call (.Name "range" p) [e,e2,b] [] pos) Q:=by
 intro H led hs
 refine ae.evCallB (e:=e) (es:=[e2,b]) (R:=λts S1=>∃m n,ts=[.int m,.int n,.int (-1)]/\(-(2^61)<=m/\m<2^61/\ -(2^61)<=n/\n<2^61)/\Q (jJ m (-1) (m-n).toNat) S1) hs hg (.t _) hk (by decide) (by simp[hp,g,i])
  (b8.cons hp (h.mono λt S1 h2=>b8.cons g (h2.mono λu S2 h3=>b8.cons i (h3.mono λw S3 j=>by obtain⟨m,n,e,z,f,a,q⟩:=j;exact(b8.nil ⟨m,n,by simp only[e,z,f],a,q⟩))))) ?_
 rintro ts S1 vs H' l ⟨m,n,rfl,⟨h1,h2,h3,h4⟩,q⟩ rs s1
 obtain⟨v,bA,rfl,rv,w,DP,rfl,k,x,vs3,rfl,rx,rfl⟩:=rs
 obtain⟨t,rfl⟩:=rv.int
 obtain⟨t2,rfl⟩:=k.int
 obtain⟨t3,rfl⟩:=rx.int
 intro A s y tk fl ok sp
 refine call_range_3 (c:= -1) (by decide) ?_ (.inl (PyProof.noPylong_of_log2 (by decide+kernel)))
 refine⟨_,_,H',(y.objs.size,_)::l,rfl,.refl _,a5.alloc sp _ rfl,?_⟩
 have e:(kc m n (-1)).toNat=(m-n).toNat:=by rw[Ix];split<;>trivial
 refine ae.rangeIter r ?_ λI li it o=>⟨_,S1,_,li,l,rfl,it,o,s1,?_⟩
 ·unfold Xs Builtin.Range.rangeFitsLong
  rw[Ix]
  simp only[show ¬ ((-1)>0) by decide,if_false,cO,decide_eq_true_eq,v9]
  split<;>refine⟨⟨⟨⟨⟨?_,?_⟩,?_,?_⟩,?_,?_⟩,?_,?_⟩,.inr ⟨?_,?_⟩⟩<;>trivial
 ·unfold xa;rw[e];exact q
theorem ck.rev{tgt e:Expr}{p pos:ax}{Q:List T->St->Prop}(hg:cI G "reversed" (.type "reversed"))(hk:Γ.env.kindOf "reversed"=some .globalImplicit)(j:fN tgt=false)(hp:bh e=true)
  (h:Ev G d Γ S e λt S1=>∃ts,t= .list ts/\Q ts.reverse S1):ck G d Γ S tgt (.Call (.Name "reversed" p) [e] [] pos) Q:=by
 intro H led hs
 refine ae.evCallB (e:=e) (es:=[]) (R:=λts S1=>∃us,ts=[.list us]/\Q us.reverse S1) hs hg (.t _) hk (by decide) (by simp[hp])
  (b8.cons hp (h.mono λt S1 f=>by obtain⟨n,e,q⟩:=f;exact(b8.nil ⟨n,by rw[e],q⟩))) ?_
 rintro ts S1 vs H' l ⟨us,rfl,q⟩ rs s1
 refine aj λm=>?_
 obtain⟨v,bA,rfl,rv,rfl⟩:=rs
 obtain⟨a,vs,o,rfl,ha,ho,hz,rs⟩:=rv
 refine m ?_
 have hlen:=rs.length
 intro A s b tk fl ok sp
 refine PySem.call_reversed_list (ho.isList (sp.frz _ _ ha)) ?_
 refine⟨_,_,H',(b.objs.size,_)::l,rfl,.refl _,a5.alloc sp _ rfl,?_⟩
 have g:JF b.objs.size a us 0 H' [(b.objs.size,PySem.revObj a ((vs.toArray.size:Int)-1))]:=⟨_,vs,o,rfl,rfl,by show Data.fields #[.ref a,tI ((vs.toArray.size:Int)-1)]=_;simp[hlen],dx _,ha,ho,rs⟩
 refine λA2 s2 h2 k DS pK c=>?_
 refine Xr (l:=a) (i:=(us.length:Int)-1) ⟨_,(c.own _ (.head _)).1,rfl,by show Data.fields #[.ref a,tI ((vs.toArray.size:Int)-1)]=_;simp[hlen]⟩ ?_
 exact⟨h2,k,H',_,rfl,.refl _,c,_,S1,_,[_],l,rfl,f8.rev j,g,s1,q⟩
theorem ck.enum{elts:List Expr}{z:Nat}{g:ax}{e:Expr}{p pos:ax}{Q:List T->St->Prop}(hg:cI G "enumerate" (.type "enumerate"))(hk:Γ.env.kindOf "enumerate"=some .globalImplicit)(hp:bh e=true)
  (h:Ev G d Γ S e λt S1=>∃ts,t= .list ts/\Q (lB ts) S1):ck G d Γ S (.Tuple elts z g) (.Call (.Name "enumerate" p) [e] [] pos) Q:=by
 intro H led hs
 refine ae.evCallB (e:=e) (es:=[]) (R:=λts S1=>∃us,ts=[.list us]/\Q (lB us) S1) hs hg (.t _) hk (by decide) (by simp[hp])
  (b8.cons hp (h.mono λt S1 w=>by obtain⟨n,e,q⟩:=w;exact(b8.nil ⟨n,by rw[e],q⟩))) ?_
 rintro ts S1 vs H' l ⟨us,rfl,q⟩ rs s1
 refine aj λm=>?_
 obtain⟨v,bA,rfl,rv,rfl⟩:=rs
 obtain⟨a,vs,o,rfl,ha,ho,hz,rs⟩:=rv
 refine m ?_
 intro A s c y fl ok sp
 refine call_enumerate_list (ho.isList (sp.frz _ _ ha)) λh' he hi th x=>?_
 refine aj λm=>?_
 obtain⟨j,k,ci,di⟩:=hi
 refine m ?_
 have B:a5 G h' H' ((c.objs.size+1,qj c.objs.size 0 .none)::(c.objs.size,j)::(l++fl)):=by
  have i:=sp.keep x
  have none_: ∀b,c.objs.size<=b->H' b=none:=λb hb=>by
   cases q:H' b with
   |none=>rfl
   |some ob=>exact absurd (gm (sp.frz _ _ q)) (pT.mpr hb)
  have u: ∀p∈l++fl,p.1<c.objs.size:=λp hp=>gm (sp.own p hp).1
  refine⟨i.base,i.frz,λp f=>?_,?_⟩
  ·rcases bz.mp f with rfl|f
   ·exact⟨he,none_ _ (wd _)⟩
   ·rcases bz.mp f with rfl|f
    ·exact⟨k,none_ _ (cR _)⟩
    ·exact i.own p f
  ·refine dQ.mpr ⟨λhm=>?_,dQ.mpr ⟨λhm=>?_,i.nd⟩⟩
   ·rw[gr,bz]at hm
    rcases hm with e|hm
    ·exact absurd e (Nat.succ_ne_self _)
    ·obtain⟨p,f,e⟩:=bF.mp hm
     have :=u p f;rw[e]at this;exact absurd this (pT.mpr (wd _))
   ·obtain⟨p,f,e⟩:=bF.mp hm
    have :=u p f;rw[e]at this;exact absurd this (jY _)
 refine⟨h',y,H',(c.objs.size+1,qj c.objs.size 0 .none)::(c.objs.size,j)::l,rfl,.refl _,B,?_⟩
 have C:Bx (c.objs.size+1) c.objs.size a us 0 H' [(c.objs.size+1,qj c.objs.size 0 .none),(c.objs.size,j)]:=⟨.none,j,vs,o,rfl,ci,di,ha,ho,rs⟩
 refine λA2 s2 h2 D DS pK r=>?_
 refine wpAny_pyIter_enum (r.own _ (.head _)).1 ?_
 exact⟨h2,D,H',_,rfl,.refl _,r,_,S1,_,[_,_],l,rfl,f8.enum,C,s1,q⟩
inductive kD(Γ:Fm):List Expr->List T->St->St->Prop
 |nil {X:St}:kD Γ [] [] X X
 |cons {x p es t ts} {X X1 X2:St}:ee Γ X x (.fr t) X1->kD Γ es ts X1 X2->kD Γ (.Name x p::es) (t::ts) X X2
inductive iO(Γ:Fm):Expr->T->St->St->Prop
 |name {x p t} {X X':St}:ee Γ X x (.fr t) X'->iO Γ (.Name x p) t X X'
 |tup {es k p ts} {X X':St}:kD Γ es ts X X'->iO Γ (.Tuple es k p) (.tup ts) X X'
theorem ae.bindN{H:PM}{led:av}{x:ag}{t:T}{v:an}{S':St}{Q:Unit->PM->av->Prop}(hs:bd Γ S H led)(hp:ee Γ S x (.fr t) S')(a:VR H t v)(h: ∀l,bd Γ S' H l->Q () H l):
  ae G d H led (v7 Γ.env x v) Q:=
 ae.bindName (ae.mono (ae.store (l1:=[]) hs hp ⟨a,rfl⟩) λz_ H' l le ⟨e,s⟩=>by subst e;exact h l s)
theorem kD.run{es:List Expr}{ts:List T}{S S':St}(hp:kD Γ es ts S S'): ∀{H:PM} {led:av} {vs:List an},bd Γ S H led->aF H ts vs->
  ae G d H led (zi ((lT es Γ.env).map (·.2)) vs) λz_ H' l=>H'=H/\bd Γ S' H l:=by
 induction hp with
 |nil=>
  intro H led vs hs rs
  exact ae.pure ⟨rfl,hs⟩
 | @cons x p es t ts S S1 S2 a _ b=>
  intro H led vs hs rs
  refine aj λc=>?_
  obtain⟨v,bA,rfl,rv,cG⟩:=rs
  refine c ?_
  refine ae.bind (ae.holding ?_)
  exact ae.bind (ae.standAt (ae.bindN hs a rv λl s=>b s cG))
theorem kD.len{es:List Expr}{ts:List T}{S S':St}(hp:kD Γ es ts S S'):es.length=ts.length:=by
 induction hp with
 |nil=>rfl
 |cons _ _ a=>simp[a]
theorem kD.each{es:List Expr}{ts:List T}{S S':St}(hp:kD Γ es ts S S'):(lT es Γ.env).length=es.length/\(lT es Γ.env).findIdx? (·.1)=none:=by
 induction hp with
 |nil=>exact⟨rfl,rfl⟩
 | @cons x p es t ts S S1 S2 _ _ a=>
  have e:lT (.Name x p::es) Γ.env=(false,assign (.Name x p) Γ.env)::lT es Γ.env:=rfl
  rw[e]
  exact⟨by simp[a.1],by simp[List.findIdx?_cons,a.2]⟩
theorem ae.unpackItems{H:PM}{led:av}{v:an}{ts:List T}{n:Nat}{Q:List an->PM->av->Prop}(f:VR H (.tup ts) v)(hn:n=ts.length)(h: ∀vs,aF H ts vs->Q vs H led):ae G d H led (EY v n none) Q:=by
 obtain⟨a,vs,o,rfl,ha,ho,rs⟩:=f
 have hlen:=rs.length
 intro A s hp c fl ok sp
 have g:=ho.isTup (sp.frz _ _ ha)
 have e:n=vs.toArray.size:=by rw[hn];simp[hlen]
 subst e
 refine unpackItems_tuple ok.1 g λh' hk=>?_
 refine⟨h',c,H,led,rfl,.refl _,sp.keep λb ob e=>hk b ob (tL (gm e)) e,?_⟩
 exact h _ (by simpa using rs)
theorem iO.run{tgt:Expr}{t:T}{S S':St}{H:PM}{led:av}{v:an}{Q:Unit->PM->av->Prop}(hb:iO Γ tgt t S S')(hs:bd Γ S H led)(a:VR H t v)(h: ∀l,bd Γ S' H l->Q () H l):ae G d H led (assign tgt Γ.env v) Q:=by
 induction hb with
 |name hp=>
  simp only[arm_assign_Name]
  exact ae.bind (ae.standAt (ae.bindN hs hp a h))
 | @tup es k p ts _ _ hp=>
  simp only[arm_assign_Tuple]
  refine ae.bind (ae.standAt ?_)
  unfold unpack
  simp only[hp.each.2,hp.each.1,hp.len]
  refine ae.bind (ae.holding (ae.unpackItems a rfl λvs rs=>?_))
  exact(hp.run hs rs).mono λz_ H' l le ⟨e,s⟩=>by subst e;exact h l s
end
section
variable {G:aK} {d:Nat} {Γ:Fm} {S:St}
noncomputable def gB(e:Expr):Bool:= !(e.ctorIdx==8 ||e.ctorIdx==9 ||e.ctorIdx==10)
theorem B7{e:Expr}{t:Option Expr}{n:Nat}{env:c6}(h:gB e=true):we e t n env=pure false:=by
 cases e<;>first |rfl|cases h
noncomputable def dX(e:Expr):Bool:=e.ctorIdx !=7
theorem Ca{e:Expr}{env:c6}{x:an}(h:dX e=true):Mf e env x=pure x:=by
 cases e<;>first |rfl|cases h
theorem eH.nil{Q:cC->St->Prop}(h:Q .next S):eH G d Γ S [] Q:=λH led hs=>ae.pure ⟨.next,S,rfl,hs,h⟩
theorem eH.cons{st:aW}{r:List aW}{Q:cC->St->Prop}(h:Ex G d Γ S st λo S1=>(o= .next->eH G d Γ S1 r Q)/\(∀t,o= .ret t->Q (.ret t) S1)):eH G d Γ S (st::r) Q:=by
 intro H led hs
 refine ae.bind ((h H led hs).mono λf H' l le b=>?_)
 obtain⟨o,S1,a,s1,q1,q2⟩:=b
 induction o with
 |next=>rw[show f= .next from a];exact q1 rfl H' l s1
 |ret t=>obtain⟨v,rfl,rv⟩:=a;exact ae.pure ⟨.ret t,S1,⟨v,rfl,rv⟩,s1,q2 t rfl⟩
theorem Ex.retE{e:Expr}{pos:ax}{Q:cC->St->Prop}(h:Ev G d Γ S e λt S1=>Q (.ret t) S1):Ex G d Γ S (.Return (some e) pos) Q:=by
 intro H led hs
 simp only[exec_Return_some]
 exact ae.bind (ae.standAt (ae.bind ((h H led hs).mono λv H' l le a=>by obtain⟨t,S1,rt,s1,q⟩:=a;exact(ae.pure ⟨.ret t,S1,⟨v,rfl,rt⟩,s1,q⟩))))
theorem Ex.ifS{c:Expr}{x y:List aW}{pos:ax}{Q:cC->St->Prop}(h:Tr G d Γ S c λb S1=>(b=true->eH G d Γ S1 x Q)/\(b=false->eH G d Γ S1 y Q)):Ex G d Γ S (.If c x y pos) Q:=by
 intro H led hs
 refine ae.bind (ae.standAt (ae.bind ((h H led hs).mono λb H' l le a=>?_)))
 obtain⟨S1,s1,q1,q2⟩:=a
 induction b with
 |true=>exact q1 rfl H' l s1
 |false=>exact q2 rfl H' l s1
theorem Ex.assign{x:ag}{p pos:ax}{e:Expr}{Q:cC->St->Prop}(hn:gB e=true)(h:gi G d Γ S e λr S1=>∃S2,ee Γ S1 x r S2/\Q .next S2):Ex G d Γ S (.Assign [.Name x p] e pos) Q:=by
 intro H led hs
 rw[exec_Assign_Name _ _ _ _ _ (B7 hn)]
 refine ae.bind (ae.standAt (ae.bind ((h H led hs).mono λv H' l le a=>?_)))
 obtain⟨r,S1,l1,l2,el,rr,s1,S2,hp,q⟩:=a
 subst el
 refine ae.bind (ae.standAt (ae.bind (ae.bindName ((ae.store s1 hp rr).mono λz_ H2 l aV ⟨e,s2⟩=>?_))))
 subst e
 exact ae.pure ⟨.next,S2,rfl,s2,q⟩
inductive gg(Γ:Fm):List ag->List R->St->St->Prop
 |nil {X:St}:gg Γ [] [] X X
 |cons {x es r rs} {X X1 X2:St}:ee Γ X x r X1->gg Γ es rs X1 X2->gg Γ (x::es) (r::rs) X X2
theorem gg.run0{rs:List R}{X X':St}(h:gg Γ [] rs X X'):rs=[]/\X=X':=by
 cases h;exact⟨rfl,rfl⟩
inductive RE(Γ:Fm)(x:ag)(xs:List ag)(rs:List R)(X X':St):Prop
 |mk (r:R) (cG:List R) (X1:St) (e:rs=r::cG) (p:ee Γ X x r X1) (k:gg Γ xs cG X1 X')
theorem gg.inv{x:ag}{xs:List ag}{rs:List R}{X X':St}(h:gg Γ (x::xs) rs X X'):RE Γ x xs rs X X':=by
 cases h with
 |cons p k=>exact⟨_,_,_,rfl,p,k⟩
theorem gg.runA: ∀{acts:List (ag×(an->bX Unit))} {rs:List R} {X X':St} {H:PM} {l1 l2:av} {vs:List an},(∀p∈acts,∀v H led (Q:Unit->PM->av->Prop),ae G d H led (v7 Γ.env p.1 v) Q->ae G d H led (p.2 v) Q)->gg Γ (acts.map ai) rs X X'->bd Γ X H l2->jA H rs vs l1->
  ae G d H (l1++l2) (zi (acts.map ak) vs) λf H' l=>H'=H/\bd Γ X' H l:=by
 intro acts
 induction acts with
 |nil=>
  intro rs X X' H l1 l2 vs _ hp hs hr
  obtain⟨rfl,rfl⟩:=hp.run0
  obtain⟨rfl,rfl⟩:=hr
  exact ae.pure ⟨rfl,hs⟩
 |cons a acts i=>
  intro rs X X' H l1 l2 vs ok hp hs hr
  refine aj λb=>?_
  obtain⟨r,cG,X1,rfl,g,hq⟩:=hp.inv
  obtain⟨v,bA,c,k2,rfl,rfl,rr,h⟩:=hr
  refine b ?_
  have pm:((c++k2)++l2).Perm ((c++l2)++k2):=by
   simp only[dR,dR]
   exact rf _ gO
  exact ae.bind (ae.holding (ok a (.head _) v _ _ _ (ae.bindName (ae.perm (ae.mono (ae.frame (fr:=k2) (ae.store hs g rr)) λf H' l le j=>by
   refine aj λb=>?_
   obtain⟨l',e,e0,s'⟩:=j
   refine b ?_
   simp only[e,e0]
   exact ae.perm (i (λp m=>ok p (.tail _ m)) hq s' h) gO) pm))))
theorem gg.run{xs:List ag}{rs:List R}{X X':St}(hp:gg Γ xs rs X X'){H:PM}{l1 l2:av}{vs:List an}(hs:bd Γ X H l2)(hr:jA H rs vs l1):
  ae G d H (l1++l2) (zi (xs.map λn=>v7 Γ.env n) vs) λz_ H' l=>H'=H/\bd Γ X' H l:=by
 have h:=gg.runA (G:=G) (d:=d) (acts:=xs.map λn=>(n,v7 Γ.env n)) (λp hp v H led Q h=>by obtain⟨n,_,rfl⟩:=bF.mp hp;exact h) (by rw[jy];exact(zj xs).symm▸hp) hs hr
 rw[jy]at h
 exact h
noncomputable def jL{C:Expr->Type}(e:Expr)(f: ∀x p,C (.Name x p))(d:C e):C e:=if h:e.ctorIdx=23 then Expr.Name.elim e h f else d
noncomputable def xv{C:Expr->Type}(e:Expr)(f: ∀es k p,C (.Tuple es k p))(d:C e):C e:=if h:e.ctorIdx=25 then Expr.Tuple.elim e h f else d
noncomputable def Dz(e:Expr):Option {q:ag×ax//e= .Name q.1 q.2}:=jL (C:=λe=>Option {q:ag×ax//e= .Name q.1 q.2}) e (λx p=>some ⟨(x,p),rfl⟩) none
noncomputable def iQ(es:List Expr):List ag:=es.filterMap λe=>(Dz e).map (·.1.1)
noncomputable def jk(es:List Expr):Bool:=es.all λe=>(Dz e).isSome
theorem AH: ∀{es:List Expr},jk es=true->∃ps:List (ag×ax),es=ps.map (λq=>.Name q.1 q.2)/\iQ es=ps.map ai:=by
 intro es
 induction es with
 |nil=>exact λz_=>⟨[],rfl,rfl⟩
 |cons e es a=>
  intro h
  refine aj λb=>?_
  obtain⟨h1,h2⟩:=q9.mp (show((Dz e).isSome&&jk es)=true from h)
  obtain⟨ps,e1,e2⟩:=a h2
  obtain⟨q,hq⟩:=or.mp h1
  refine b ?_
  refine⟨q.1::ps,by simp only[gr, ← e1, ← q.2],?_⟩
  show(e::es).filterMap _=_
  simp only[List.filterMap_cons,hq]
  exact congrArg (q.1.1:: ·) e2
theorem DM(env:c6): ∀ps:List (ag×ax),lT (ps.map λq=>.Name q.1 q.2) env=ps.map λq=>(false,assign (.Name q.1 q.2) env)
 | []=>rfl
 |q::ps=>congrArg (((false,assign (.Name q.1 q.2) env)):: ·) (DM env ps)
theorem ym{es:List Expr}{env:c6}(h:jk es=true):(lT es env).length=es.length/\(lT es env).findIdx? (·.1)=none/\(iQ es).length=es.length:=by
 refine aj λa=>?_
 obtain⟨ps,e1,e2⟩:=AH h
 refine a ?_
 rw[e2,e1,DM,bi,bi,bi]
 exact⟨rfl,by rw[List.findIdx?_eq_none_iff];intro x hx;obtain⟨q,_,rfl⟩:=bF.mp hx;rfl,rfl⟩
theorem gg.runE{es:List Expr}{rs:List R}{X X':St}(ha:jk es=true)(hp:gg Γ (iQ es) rs X X'){H:PM}{l1 l2:av}{vs:List an}(hs:bd Γ X H l2)(hr:jA H rs vs l1):
  ae G d H (l1++l2) (zi ((lT es Γ.env).map (·.2)) vs) λz_ H' l=>H'=H/\bd Γ X' H l:=by
 refine aj λa=>?_
 obtain⟨ps,e1,e2⟩:=AH ha
 refine a ?_
 rw[e2]at hp
 have h:=gg.runA (G:=G) (d:=d) (acts:=ps.map λq=>(q.1,assign (.Name q.1 q.2) Γ.env)) (λp hp v H led Q h=>by
  obtain⟨q,_,rfl⟩:=bF.mp hp
  exact ae.bind (ae.standAt h)) (by rw[jy];exact hp) hs hr
 simp only[jy]at h
 simp only[e1,DM,jy]
 exact h
theorem jA.rev{H:PM}{rs:List R}{vs:List an}{l:av}(h:jA H rs vs l): ∃l',l.Perm l'/\jA H rs.reverse vs.reverse l':=by
 have app: ∀{rs:List R} {vs:List an} {l:av} {r:R} {v:an} {k:av},jA H rs vs l->RR H r v k->jA H (rs++[r]) (vs++[v]) (l++k):=by
  intro rs
  induction rs with
  |nil=>intro vs l r v k ⟨e,e2⟩ hr;subst e e2;exact⟨v,[],k,[],rfl,by simp,hr,rfl,rfl⟩
  |cons r0 rs c=>intro vs l r v k ⟨v0,bA,l1,l2,e,e2,a,b⟩ hr;subst e e2;exact⟨v0,bA++[v],l1,l2++k,rfl,by simp,a,c b hr⟩
 induction rs generalizing vs l with
 |nil=>obtain⟨e,e2⟩:=h;subst e e2;exact⟨[],.refl _,rfl,rfl⟩
 |cons r rs c=>
  obtain⟨v,bA,l1,l2,e,e2,a,b⟩:=h
  subst e e2
  obtain⟨l',hp,hr⟩:=c b
  exact⟨l'++l1,gO.trans (EW _ hp),by simpa using app hr a⟩
theorem ae.unpackOwned{H:PM}{led:av}{t:aw}{o:bn}{vs:List an}{n:Nat}{Q:List an->PM->av->Prop}(ho:iS o vs)(hn:n=vs.length)(h:Q vs H led):ae G d H ((t,o)::led) (EY (.ref t) n none) Q:=by
 intro A s hp a fl ok sp
 have c:=ho.isTup (sp.own (t,o) (.head _)).1
 have e:n=vs.toArray.size:=by rw[hn];simp
 subst e
 refine unpackItems_tuple ok.1 c λh' hk=>?_
 exact⟨h',a,H,led,rfl,.refl _,a5.drop (l:=[(t,o)]) (sp.keep λb ob e=>hk b ob (tL (gm e)) e),by simpa using h⟩
theorem uh{ts:List Expr}{e:Expr}{n:Nat}{env:c6}(h:gB e=true):swapsWithSole ts e n env=pure false:=by
 cases ts with
 |nil=>rfl
 |cons t r=>cases r with
  |nil=>exact B7 h
  |cons _ _=>rfl
theorem Ex.assignTup{xs es:List Expr}{k k':Nat}{p p' pos:ax}{Q:cC->St->Prop}(hw:wg [.Tuple xs k p] (.Tuple es k' p') Γ.env=pure none)(hx:jk xs=true)(hz:es.length<=1000)(b:xs.length=es.length)
  (h:jD G d Γ S p' es λrs S1=>∃S2,gg Γ (iQ xs) rs S1 S2/\Q .next S2):Ex G d Γ S (.Assign [.Tuple xs k p] (.Tuple es k' p') pos) Q:=by
 intro H led hs
 rw[zk,uh rfl,hw]
 refine ae.bind (ae.standAt (ae.bind (ae.pure ?_)))
 show ae G d H led (do let v ← EZ (mR es k' p') Γ.env;let o ← aH none;Mg Γ.env v o ((lT [mR xs k p] Γ.env).map (·.2))) _
 rw[arm_eval_Tuple]
 refine ae.bind (ae.bind (ae.standAt (ae.bind ((h H led hs).mono λvs H' l le j=>?_))))
 obtain⟨rs,S1,l1,l2,el,a,s1,S2,hp,q⟩:=j
 subst el
 have hlen:=a.length
 have f:(iQ xs).length=rs.length:=by
  clear hs q s1 a hlen h
  generalize iQ xs=ys at hp
  induction hp with
  |nil=>rfl
  |cons _ _ i=>simp[i]
 have bf:rs.length<=1000:=by simp only[← f,(ym (env:=Γ.env) hx).2.2,b];exact hz
 refine λA s c g fl ok sp=>tF (T:="tuple") (dict:=none) ?_ (by show vs.toArray.size<=bO;simp only[eA];simp[hlen];trivial)
 refine⟨_,g,H',(c.objs.size,_)::(l1++l2),rfl,.refl _,a5.alloc sp _ rfl,?_⟩
 show ae G d H' _ (do E0 (.ref c.objs.size) [kW (mR xs k p) Γ.env];aH tM) _
 refine ae.bind ?_
 show ae G d H' _ (kW (mR xs k p) Γ.env (.ref c.objs.size)) _
 refine ae.bind (ae.standAt ?_)
 unfold unpack
 rw[(ym hx).2.1,(ym hx).1]
 refine ae.bind (ae.holding (ae.unpackOwned (iS.mk vs 0) (by simp only[hlen, ← f,(ym (env:=Γ.env) hx).2.2]) ?_))
 exact(hp.runE hx s1 a).mono λz_ H2 l aV ⟨e,s2⟩=>by subst e;exact ae.pure ⟨.next,S2,rfl,s2,q⟩
theorem Ex.assignSwap{xs es:List Expr}{ns:List ag}{k k':Nat}{p p' pos:ax}{Q:cC->St->Prop}(hw:wg [.Tuple xs k p] (.Tuple es k' p') Γ.env=pure (some ns))(hz:ns.length<=1000)
  (h:jD G d Γ S p' es λrs S1=>rs.length=ns.length/\∃S2,gg Γ ns.reverse rs.reverse S1 S2/\Q .next S2):Ex G d Γ S (.Assign [.Tuple xs k p] (.Tuple es k' p') pos) Q:=by
 intro H led hs
 rw[zk,uh rfl,hw]
 refine ae.bind (ae.standAt (ae.bind (ae.pure ?_)))
 show ae G d H led (do let v ← EZ (mR es k' p') Γ.env;let o ← aH (some ns);Mg Γ.env v o ((lT [mR xs k p] Γ.env).map (·.2))) _
 refine ae.bind (ae.bind (ae.standAt (ae.bind ((h H led hs).mono λvs H' l le i=>?_))))
 obtain⟨rs,S1,l1,l2,el,b,s1,hrl,S2,hp,q⟩:=i
 subst el
 have hlen:=b.length
 refine λA s c f fl ok sp=>tF (T:="tuple") (dict:=none) ?_ (by show vs.toArray.size<=bO;simp only[eA];simp[hlen];lia)
 refine⟨_,f,H',(c.objs.size,_)::(l1++l2),rfl,.refl _,a5.alloc sp _ rfl,?_⟩
 show ae G d H' _ (do rule "assign.swapped-stores";let items ← EY (.ref c.objs.size) ns.length none;zi (ns.reverse.map λn=>v7 Γ.env n) items.reverse;aH tM) _
 refine ae.bind (ae.rule (ae.bind (ae.unpackOwned (iS.mk vs 0) (by lia) ?_)))
 obtain⟨l1',g,a⟩:=b.rev
 refine ae.bind (ae.perm (ae.mono (hp.run s1 a) λz_ H2 l aV ⟨e,s2⟩=>?_) (g.append_right _))
 cases e
 exact ae.pure ⟨.next,S2,rfl,s2,q⟩
noncomputable def uD(e:Expr):Bool:=e.ctorIdx !=25
theorem Rv{xs:List Expr}{k:Nat}{p:ax}{e:Expr}{env:c6}(h:uD e=true):wg [.Tuple xs k p] e env=pure none:=by
 cases e<;>first |rfl|cases h
theorem Ex.unpack{xs:List Expr}{e:Expr}{k:Nat}{p pos:ax}{Q:cC->St->Prop}(hn:gB e=true)(a:uD e=true)
  (h:Ev G d Γ S e λt S1=>∃ts S2,t= .tup ts/\kD Γ xs ts S1 S2/\Q .next S2):Ex G d Γ S (.Assign [.Tuple xs k p] e pos) Q:=by
 intro H led hs
 rw[zk,uh hn,Rv a]
 refine ae.bind (ae.standAt (ae.bind (ae.pure ?_)))
 refine ae.bind ((h H led hs).mono λv H' l le c=>?_)
 refine aj λf=>?_
 obtain⟨t,S1,rt,s1,ts,S2,b,hp,q⟩:=c
 refine f ?_
 subst b
 show ae G d H' l (do E0 v [kW (mR xs k p) Γ.env];aH tM) _
 refine ae.bind ?_
 exact iO.run (iO.tup hp) s1 rt λl s2=>ae.pure ⟨.next,S2,rfl,s2,q⟩
inductive uz(Γ:Fm):St->ag->T->Prop
 |l {X:St} {x t}:At X.l x (.val t) (.val t) X.l->uz Γ X x t
 |c {X:St} {x t}:At X.c x (.val t) (.val t) X.c->Γ.env.kindOf x=some .cell->uz Γ X x t
theorem ae.loadVal{H:PM}{led:av}{x:ag}{t:T}{Q:an->PM->av->Prop}(hs:bd Γ S H led)(a:uz Γ S x t)(h: ∀v,VR H t v->Q v H led):ae G d H led (loadName Γ.env x) Q:=by
 induction a with
 |l b=>
  refine aj λe=>?_
  obtain⟨oL,m,l2,r,hp,hn,⟨⟨v,a,hr⟩,_⟩,_⟩:=hs.openL b
  refine e ?_
  refine ae.read λA s ok g f ho hf=>?_
  have i:=ho (Γ.env.locals,oL) (hp.mem_iff.mpr (iG _ (.head _)))
  exact EQ (m:=m) hs.wf.kind (hs.local b).1 (hn.ns i) a ⟨⟨_,rfl⟩,h v hr⟩
 |c b hk=>
  refine aj λe=>?_
  obtain⟨c,oc,vo,l2,r,h1,h2,hp,⟨⟨v,a,hr⟩,_⟩,_⟩:=hs.openC b
  refine e ?_
  refine ae.read λA s ok g f ho hf=>?_
  have hC:=ho (c,oc) (hp.mem_iff.mpr (iG _ (.head _)))
  subst a
  exact L7 hs.wf.kind hk (hs.wf.cells _ _ h1 (.inl hk)) ⟨oc,hC,h2⟩ ⟨⟨_,rfl⟩,h v hr⟩
def nO(G:aK)(op:eJ)(a b c:T):Prop:=∀d H v w,VR H a v->VR H b w->cA G d H (inplaceOp op v w) c
theorem nO.add{a b:Int}:nO G .Add (.int a) (.int b) (.int (a+b)):=λd H v w e hw=>by
 obtain⟨t,rfl⟩:=e.int;obtain⟨u,rfl⟩:=hw.int
 exact cA.read λA s ok hp tk c c=>P.iadd_int ⟨⟨_,rfl⟩,VR.ofInt⟩
theorem nO.sub{a b:Int}:nO G .Sub (.int a) (.int b) (.int (a-b)):=λd H v w e hw=>by
 obtain⟨t,rfl⟩:=e.int;obtain⟨u,rfl⟩:=hw.int
 exact cA.read λA s ok hp tk c c=>P.isub_int ⟨⟨_,rfl⟩,VR.ofInt⟩
theorem Ex.aug{x:ag}{p pos:ax}{op:eJ}{e:Expr}{a:T}{Q:cC->St->Prop}(i:uz Γ S x a)(h:Ev G d Γ S e λb S1=>∃c S2,nO G op a b c/\ee Γ S1 x (.fr c) S2/\Q .next S2):Ex G d Γ S (.AugAssign (.Name x p) op e pos) Q:=by
 intro H led hs
 refine ae.bind (ae.standAt (ae.bind (ae.loadVal hs i λv rv=>ae.bind (ae.holding ((h H led hs).mono λw H' l le j=>?_)))))
 refine aj λk=>?_
 obtain⟨b,S1,g,s1,c,S2,ho,hp,q⟩:=j
 refine k ?_
 refine ae.bind (ae.standAt (ae.bind (ae.operate ?_)))
 refine(ho d H' v w (rv.mono le) g).run λu H2 m f=>ae.bind (ae.standAt (ae.bind ?_))
 exact ae.bindN (s1.mono m) hp f λl s2=>ae.pure ⟨.next,S2,rfl,s2,q⟩
theorem ae.setItem{H:PM}{a:aw}{o:bn}{vs:List an}{k:Int}{u:Tok}{v:an}(ho:cj o vs)(h0:0<=k)(h1:k<vs.length)(hz:vs.length<=bO):
  ae G d H [(a,o)] (E1 (.ref a) (.int k u) v) (rK (λz_=>True) H a (vs.set k.toNat v)):=by
 obtain⟨n,rfl⟩:=ho
 rw[eA]at hz
 refine ae.owned1 λA s ok hp f c hf=>?_
 have g:({s with heap:=hp,toks:=f}:bt).TypeIs (.ref a) "list":=⟨_,c,rfl⟩
 unfold E1
 try with_reducible refine tD ?_
 first |refine bN (dq ?_)|skip
 refine bN (wpAny_sequenceKey g (by decide) ?_)
 refine bN (wpAny_callSpecial?_slot (name:="__setitem__") g slot_list_setitem
  (Mh slot_list_setitem g entry_list_setitem ?_ (args_list_setitem _ _ _)))
 show cW _ _ (Builtin.List.listSubscript? (.int k u)>>=_) _ _ _
 refine bN (wpAny_listSubscript_int (fitsIndex_of h0 (by lia)) ?_)
 obtain⟨j,rfl⟩:=mS h0
 have i:j<vs.length:=by lia
 have l:vs.toArray[j]? =some vs[j]:=by simp[i]
 refine bN (bN (wpAny_seqItemAt c rfl (dq ?_)))
 rw[l]
 show cW _ _ (setSeqItemAt a j v>>=_) _ _ _
 have h:(hp.update a (zl (·.setIfInBounds j v))).get? a=some {cls:=.type "list",dict:=none,data:=.seq (vs.set j v).toArray n,slots:=#[]}:=by
  rw[Mi _ c rfl]
  simp[zl]
 have fin:BF H a hp s (rK (λ(_:Unit)=>True) H a (vs.set (j:Int).toNat v)) () ({s with heap:=hp.update a (zl (·.setIfInBounds j v)),toks:=f}:bt):=
  ⟨_,f,_,rfl,λb ob hb e=>(Heap.get?_update_other hp _ (ot hb)).trans e,h,trivial,rfl,_,rfl,n,rfl⟩
 refine bN (wpAny_setSeqItemAt c rfl ?_)
 first
  |exact bN (dq (dq ⟨.none,rfl,dq fin⟩))
  |exact dq ⟨.none,rfl,dq fin⟩
end
section
variable {G:aK} {d:Nat} {Γ:Fm} {S:St}
theorem Ex.whileS{c:Expr}{body:List aW}{pos:ax}{Q:cC->St->Prop}(I:Nat->St->Prop)(n:Nat)(h0:I n S)
  (step: ∀n S,I n S->Tr G d Γ S c λb S1=>(b=false->Q .next S1)/\(b=true->eH G d Γ S1 body λo S2=>(o= .next->∃m,m<n/\I m S2)/\(∀t,o= .ret t->Q (.ret t) S2))):
  Ex G d Γ S (.While c body [] pos) Q:=by
 intro H led hs A s hp r fl ok sp
 refine wpAny_While ?_
 refine codeAny_whileLoop (λn s'=>RP G s fl H (λH' bV=>∃S',bd Γ S' H' bV/\I n S') s') ?_ n ⟨hp,r,H,led,rfl,.refl _,sp,S,hs,h0⟩
 rintro n s' ⟨h1,yA,H1,a,rfl,e,x,S1,s1,i1⟩
 refine ae.to (step n S1 i1 H1 a s1) ok x λb h2 y H2 l2 h l g=>?_
 obtain⟨S2,s2,q1,q2⟩:=g
 induction b with
 |false=>
  rw[if_neg (by decide)]
  exact wpAny_execs_nil ⟨h2,y,H2,l2,rfl,e.trans h,l,.next,S2,rfl,s2,q1 rfl⟩
 |true=>
  rw[if_pos rfl]
  refine ae.to (q2 rfl H2 l2 s2) ok l λf h3 i q l3 p k g=>?_
  obtain⟨o,S3,j,s3,w,u⟩:=g
  induction o with
  |next=>
   rw[show f= .next from j]
   refine aj λz=>?_
   obtain⟨m,hm,im⟩:=w rfl
   refine z ?_
   exact⟨m,hm,h3,i,q,l3,rfl,(e.trans h).trans p,k,S3,s3,im⟩
  |ret t=>
   obtain⟨v,rfl,rv⟩:=j
   exact⟨h3,i,q,l3,rfl,(e.trans h).trans p,k,.ret t,S3,⟨v,rfl,rv⟩,s3,u t rfl⟩
inductive OJ(G:aK)(Γ:Fm)(bl:List T)(st:Nat->PM->av->Prop)(I:Nat->St->Prop)(s:bt)(fl:av)(H:PM)(n:Nat)(s':bt):Prop
 |mk (k:Nat) (h':bo) (aU:Nat) (H':PM) (S':St) (li ls:av) (en:n=bl.length-k) (hk:k<=bl.length) (es:s'={s with heap:=h',toks:=aU}) (le:Le H H') (sp:a5 G h' H' ((li++ls)++fl)) (i:st k H' li) (sr:bd Γ S' H' ls) (q:I k S')
theorem ae.toF{α:Type}{H:PM}{led fr fl:av}{t:bX α}{Q:α->PM->av->Prop}{A:gq}{s:bt}{h:bo}{b:Nat}{Q':α->bt->Prop}{E:an->bt->Prop}
  (r:ae G d H led t Q) (ok:Ok A d) (sp:a5 G h H ((led++fr)++fl))
  (k: ∀a h' aU H' l,Le H H'->a5 G h' H' ((l++fr)++fl)->Q a H' l->Q' a {s with heap:=h',toks:=aU}):cW G.M A t Q' E {s with heap:=h,toks:=b}:=
 ae.to r ok (dR _ _ _▸sp) λa h' aU H' l le sp q=>k a h' aU H' l le (by simp only[dR];exact sp) q
theorem a5.swap{h:bo}{H:PM}{l1 l2 fl:av}(sp:a5 G h H ((l1++l2)++fl)):a5 G h H ((l2++l1)++fl):=sp.perm (gO.append_right fl)
theorem a5.dropF{h:bo}{H:PM}{l1 l2 fl:av}(sp:a5 G h H ((l1++l2)++fl)):a5 G h H (l2++fl):=a5.drop (l:=l1) (dR _ _ _▸sp)
theorem Ex.forS{tgt e:Expr}{body:List aW}{pos:ax}{Q:cC->St->Prop}(hn:dX e=true)
  (h:ck G d Γ S tgt e λbl S1=>∃I:Nat->St->Prop,I 0 S1/\
   (∀k t S,bl[k]? =some t->I k S->∃S2,iO Γ tgt t S S2/\eH G d Γ S2 body λo S3=>(o= .next->I (k+1) S3)/\(∀u,o= .ret u->Q (.ret u) S3))/\(∀S,I bl.length S->Q .next S)):
  Ex G d Γ S (.For tgt e body [] pos) Q:=by
 intro H led hs A s hp tk fl ok sp
 refine wpAny_For ?_ (λg=>Ca hn)
 refine ae.to (h H led hs) ok sp λx h1 yA H1 l1 iB ju k1=>?_
 refine ae.to k1 ok ju λit h2 dD H2 l2 aV O az=>?_
 refine aj λa=>?_
 obtain⟨bl,S1,st,li,ls,el,q,iX,s1,I,i0,step,fin⟩:=az
 rw[el]at O
 refine a ?_
 refine codeAny_forLoop_any (OJ G Γ bl st I s fl H) ?_ bl.length
  ⟨0,h2,dD,H2,S1,li,ls,rfl,dx _,rfl,iB.trans aV,O,iX,s1,i0⟩
 intro n s' z
 obtain⟨k,h3,yB,H3,S3,li,ls,en,hk,es,P,N,j,s3,w⟩:=z
 simp only[es,en]
 by_cases c:k<bl.length
 ·have L:bl[k]? =some bl[k]:=kT c
  refine aj λa=>?_
  obtain⟨S5,hb,vr⟩:=step k _ S3 L w
  refine a ?_
  refine ae.toF (q.item k _ H3 li L j) ok N λr h4 C H4 l4 b m z=>?_
  obtain⟨v,y,rv,DT⟩:=z
  rw[y]
  refine ae.toF DT ok m λg h5 vv H5 l5 p tj i=>?_
  refine ae.toF (iO.run (Q:=λg H' l=>bd Γ S5 H' l) hb (s3.mono (b.trans p)) (rv.mono p) λl s=>s) ok tj.swap λg h6 KT H6 l6 D DU s6=>?_
  refine ae.toF (vr H6 l6 s6) ok DU λf M Z B J Y X z=>?_
  refine aj λa=>?_
  obtain⟨o,U,F,E,q1,q2⟩:=z
  refine a ?_
  have W:Le H B:=(((P.trans b).trans p).trans D).trans Y
  induction o with
  |next=>
   simp only[show f= .next from F]
   exact⟨bl.length-(k+1),Nat.sub_lt_sub_left c (lU k),k+1,M,Z,B,U,l5,J,rfl,c,rfl,W,X.swap,q.mono _ _ _ _ (D.trans Y) i,E,q1 rfl⟩
  |ret t=>
   refine aj λa=>?_
   obtain⟨v,ef,rv⟩:=F
   refine a ?_
   simp only[ef]
   exact⟨M,Z,B,J,rfl,W,X.swap.dropF,.ret t,U,⟨v,rfl,rv⟩,E,q2 t rfl⟩
 ·have ek:k=bl.length:=Nat.le_antisymm hk (pT.mp c)
  rw[ek]at j w
  refine ae.toF (q.done H3 li j) ok N λr h4 C H4 l4 b m y=>?_
  simp only[y]
  exact wpAny_execs_nil ⟨h4,C,H4,ls,rfl,P.trans b,m.dropF,.next,S3,rfl,s3.mono b,fin S3 w⟩
theorem Su{env:c6}(h:env.scope.kind= .function):interactive env=false:=by unfold interactive;rw[h];rfl
theorem ae.exprStmt{H:PM}{led:av}{e:Expr}{pos:ax}{Q:Flow->PM->av->Prop}(hk:Γ.env.scope.kind= .function)(hn:gB e=true)(h:ae G d H led (eval e Γ.env) λv H' l=>v= .none/\Q .next H' l):ae G d H led (exec (.Expr e pos) Γ.env) Q:=by
 rw[exec_Expr _ _ _ (Su hk) (B7 hn)]
 refine ae.bind (ae.standAt (ae.bind (h.mono λv H' l le ⟨e,q⟩=>?_)))
 subst e
 exact ae.of_pure (dropValue_plain λa=>by intro h;cases h) q
theorem ae.method{H:PM}{led:av}{x name:ag}{p apos pos:ax}{a:aw}{id:String}{es:List Expr}{Q:an->PM->av->Prop}(c:es.all bh=true)(i:decide (es.length<30)=true)(l:(apos.endLine==pos.line)=true)
  (slot:PySem.Slot "list" name id) (g:typeOf (.builtin id)=aH (Value.type "method_descriptor")) {ts:List T} (hs:bd Γ S H led) (ho:dp Γ S x a ts)
  (h:ae G d H led (EU pos (.builtin id) [.ref a] (fT pos (fo es Γ.env)) []) Q):ae G d H led (eval (.Call (.Attribute (.Name x p) name apos) es [] pos) Γ.env) Q:=by
 show ae G d H led (do
  let ov ← EZ (Expr.Name x p) Γ.env
  mO apos.atName
  methodCall (.Name x p) name apos pos Γ.env ov (es.length+0) (fT pos (fo es Γ.env)) []) Q
 refine ae.bind (dp.read hs ho (ae.bind (ae.standAt ?_)))
 have k:(fT pos (fo es Γ.env)).all (λx=> !x.1)=true:=by
  clear h
  revert c
  clear i
  induction es with
  |nil=>intro _;rfl
  |cons e es q=>
   intro hp
   simp only[rd,cO]at hp
   rw[w6 hp.1]
   show(!false&&(fT pos (fo es Γ.env)).all (λx=> !x.1))=true
   rw[q hp.2];rfl
 have f:methodCallForm (es.length+0) (fT pos (fo es Γ.env)) []=true:=by
  unfold methodCallForm
  rw[k]
  simpa using i
 have j:methodCallPos true (.Name x p) Γ.env apos pos=aH pos:=by unfold methodCallPos;simp[l]
 unfold methodCall
 rw[f]
 refine aj λr=>?_
 obtain⟨vs,o,hm,rs,hl,hz⟩:=ho.obj hs
 refine r ?_
 refine ae.bind (ae.holding ?_)
 refine ae.read λA s ok hh tk m hf=>?_
 obtain⟨n,hn⟩:=hl.isL (m _ hm)
 refine getMethod_builtin (T:="list") ⟨_,hn,rfl⟩ PySem.F.plainAttrs_list slot g (λb e=>by cases e;exact⟨_,hn,rfl⟩) ⟨⟨_,rfl⟩,?_⟩
 exact ae.bind (ae.of_pure j h)
theorem ae.callBuiltinM {H : PM} {led : av} {pos : ax} {id : String} {first : List an} {e : Expr} {es : List Expr} {env : c6} {Q : an -> PM -> av -> Prop} (hp : (e :: es).all bh = true)
    (h : ae G d H led (oq (fT pos (fo (e :: es) env))) λvs H' l => ae G d H' l (fU (.builtin id) (first ++ vs)) Q) :
    ae G d H led (EU pos (.builtin id) first (fT pos (fo (e :: es) env)) []) Q := by
  have j : bh e = true := by simp only [rd, cO] at hp; exact hp.1
  intro A s k i fl ok sp
  refine Calls.callWith_builtin (Ab hp) ?_
  refine eg (ae.evalArgs (f := .builtin id) (Q := λx H' l => ae G d H' l (fU (.builtin id) (first ++ x.pos)) Q /\ x.kw = []) j (h.mono λvs H' l le q => ⟨q, rfl⟩) A s k i fl ok sp)
    (λx s' ⟨h', aU, H', l, e, le, m, q, c⟩ => ?_) λa a x => x
  obtain ⟨xp, xk⟩ := x
  dsimp only at c q
  subst c e
  exact eg (q A s h' aU fl ok m) (λb pJ g => by obtain ⟨h2, n, H2, l2, e2, o, S2, q2⟩ := g; exact (⟨h2, n, H2, l2, e2, le.trans o, S2, q2⟩)) λa a x => x
theorem ae.append{H:PM}{a:aw}{o:bn}{vs:List an}{v:an}(ho:cj o vs)(hz:vs.length<=bO):
  ae G d H [(a,o)] (fU (.builtin "list.append") [.ref a,v]) (rK (· = .none) H a (vs++[v])):=by
 obtain⟨n,rfl⟩:=ho
 refine ae.owned1 λA s ok hp f h hf=>?_
 refine wpAny_list_append_plain (hl:=⟨n,h⟩) (λh' c hs=>by obtain⟨g,i⟩:=c;exact(⟨h',f,_,rfl,λb ob hb e=>(hs.2 b hb).trans e,i,rfl,rfl,_,rfl,g,by simp⟩)) (by simpa using hz)
theorem Ex.append {x : ag} {p apos cN pos : ax} {e : Expr} {a : aw} {jt : List T} {Q : cC -> St -> Prop} (b : (apos.endLine == cN.line) = true) (hp : bh e = true) (ho : dp Γ S x a jt)
    (h : Ev G d Γ S e λt S1 => ∃ ts R S2, iW Γ S1 x a ts R /\ ts.length < bO /\ R (ts ++ [t]) S2 /\ Q .next S2) : Ex G d Γ S (.Expr (.Call (.Attribute (.Name x p) "append" apos) [e] [] cN) pos) Q := by
  intro H led hs
  refine ae.exprStmt hs.wf.kind rfl ?_
  refine ae.method (by simp [hp]) rfl b slot_list_append type_list_append hs ho ?_
  exact ae.callBuiltinM (by simp [hp]) (ae.spliced_cons hp ((h H led hs).mono λv H' l le f => ae.pure (by
    refine aj λg => ?_
    obtain ⟨t, S1, rt, s1, ts, R, S2, hm, hz, hR, q⟩ := f
    refine g ?_
    exact hm.act s1 hR (by rw [fF]; exact hz) λvs o rs lo c => ⟨vs ++ [v], (· = .none), λH' le => (rs.mono le).append (aF.cons (rt.mono le) aF.nil), ae.append lo (by rw [rs.length]; exact c), λr H' l le e s2 => ⟨e, .next, S2, rfl, s2, q⟩⟩)))
inductive QP(G:aK)(Γ:Fm)(x:ag)(a:aw)(op:eJ)(t:T)(k:Int)(K:St->Prop)(u:T)(S2:St):Prop
 |mk (c:T) (ts:List T) (R:List T->St->Prop) (S3:St) (KZ:nO G op t u c) (hm:iW Γ S2 x a ts R) (h1:k<ts.length) (hR:R (ts.set k.toNat c) S3) (q:K S3)
inductive Rf(G:aK)(d:Nat)(Γ:Fm)(x:ag)(a:aw)(op:eJ)(e:Expr)(K:St->Prop)(j:T)(S1:St):Prop
 |mk (k:Int) (vy:List T) (t:T) (ej:j= .int k) (ho:dp Γ S1 x a vy) (h0:0<=k) (hit:vy[k.toNat]? =some t) (he:Ev G d Γ S1 e (QP G Γ x a op t k K))
theorem SJ{x:ag}{ps:ax}{i:Expr}{a:aw}{k:Int}{u:Tok}{b:an}{H:PM}{l:av}{c:T}{ts:List T}{R:List T->St->Prop}{S2 S3:St}{Q:cC->St->Prop}(hi:dM i=true)(h0:0<=k)(rc:VR H c b)(s2:bd Γ S2 H l)(hm:iW Γ S2 x a ts R)(h1:k<ts.length)(hR:R (ts.set k.toNat c) S3)(q:Q .next S3):
  ae G d H l (do mO ps;augStore i (.ref a) (.int k u) b) (AB Γ Q):=by
 have e:augStore i (.ref a) (.int k u) b=(do
   j5 [b,.ref a,.int k u] (E1 (.ref a) (.int k u) b)
   PySem.release [b,.ref a,.int k u] []
   aH tM):=by cases i<;>first |rfl|cases hi
 rw[e]
 obtain⟨_,_,_,_,eX,_,hz,_⟩:=hm.open s2
 exact ae.bind (ae.standAt (ae.bind (ae.holding (hm.act s2 hR (by rw[List.length_set];exact hz) λvs o rs lo g=>⟨vs.set k.toNat b,λf=>True,λH' le=>aF.set (rc.mono le) (rs.mono le),ae.setItem lo h0 (by rw[rs.length];exact h1) (by rw[rs.length];exact g),λr H' l le f s3=>ae.bind (ae.release (ae.pure ⟨.next,S3,rfl,s3,q⟩))⟩))))
theorem Ex.augSub{x:ag}{p ps pos:ax}{i e:Expr}{op:eJ}{a:aw}{jt:List T}{Q:cC->St->Prop}(hi:dM i=true)(ho:dp Γ S x a jt)
  (h:Ev G d Γ S i (Rf G d Γ x a op e (Q .next))):
  Ex G d Γ S (.AugAssign (.Subscript (.Name x p) i ps) op e pos) Q:=by
 intro H led hs
 refine ae.bind (ae.standAt (ae.bind (dp.read hs ho ?_)))
 refine ae.bind (ae.holding ((h H led hs).mono λw H1 l1 iB l=>?_))
 refine aj λf=>?_
 obtain⟨j,S1,m,s1,k,vy,t,ej,y,h0,hit,he⟩:=l
 rw[ej]at m
 obtain⟨u,C⟩:=m.int
 refine f ?_
 rw[C]
 refine ae.bind (ae.holding (ae.bind (ae.standAt (ae.bind ?_))))
 refine aj λf=>?_
 obtain⟨vs,o,hm,rs,hl,hz⟩:=y.obj s1
 refine f ?_
 have b:io vy k=some t:=by unfold io;rw[if_pos h0];exact hit
 refine ae.read λA s ok B tk z z_=>CU (hp:=B) (hl.isList (z _ hm)) rs hz b λv rv=>⟨⟨_,rfl⟩,?_⟩
 refine ae.bind (ae.holding ((he H1 l1 s1).mono λn H2 l2 E l=>?_))
 refine aj λf=>?_
 obtain⟨uu,S2,r,s2,c,ts,R,S3,KZ,g,h1,hR,q⟩:=l
 refine f ?_
 refine ae.bind (ae.standAt (ae.operate ?_))
 exact(KZ d H2 v n (rv.mono E) r).run λnv H3 D rc=>SJ hi h0 rc (s2.mono D) g h1 hR q
end
section
variable {G:aK} {d:Nat} {Γ:Fm} {S:St}
noncomputable def dz(k:Option d6)(j:d6):Bool:=match k with |some x=>x==j|none=>false
def Av(B:List an->Prop)(n:Nat):Prop:=match n with
 |1=>∀v,B [v]
 |2=>∀v w,B [v,w]
 |3=>∀v w u,B [v,w,u]
 |_=>False
theorem Av.at{B:List an->Prop}{n:Nat}(h:Av B n){vs:List an}(hl:vs.length=n):B vs:=by
 subst hl
 match vs,h with
 | [v],h=>exact h v
 | [v,w],h=>exact h v w
 | [v,w,u],h=>exact h v w u
def oK(df:kd):Prop:=Av (λvs=>∀pm cd doc,bindArgs (docDef df.name df.params df.body df.scope pm cd doc) ⟨vs,[]⟩=aH ((df.params.args.map (·.arg)).zip vs)) df.params.args.length
theorem w5{H:PM}{ps:List ag}: ∀{ts:List T} {vs:List an} {x:ag} {t:T},aF H ts vs->(ps.zip ts).lookup x=some t->∃v,(ps.zip vs).lookup x=some v/\VR H t v:=by
 induction ps with
 |nil=>intro ts vs x t _ e;simp at e
 |cons p ps a=>
  intro ts vs x t rs e
  cases ts with
  |nil=>simp at e
  |cons t0 ts=>
   obtain⟨v,bA,rfl,r0,rs⟩:=rs
   simp only[E2,j7]at e ⊢
   cases hx:x==p with
   |true=>simp only[hx]at e;cases e;exact⟨v,rfl,r0⟩
   |false=>simp only[hx]at e;exact a rs e
theorem HG{k:ag->Option d6}{x:ag}(hx:k x=some .local): ∀{binds:List (ag×an)} {m:ag->Option an},(binds.map ai).Nodup->bindL k binds m x=match binds.lookup x with |some v=>some v|none=>m x
 | [],m,_=>rfl
 |(n,v)::r,m,hn=>by
  have b:=dQ.mp hn
  simp only[bindL,HG hx b.2,j7]
  cases hq:x==n with
  |true=>
   rw[beq_iff_eq]at hq;subst hq
   have :r.lookup x=none:=by
    cases e:r.lookup x with
    |none=>rfl
    |some a=>exact absurd (bF.mpr ⟨(x,a),mem_of_lookup e,rfl⟩) b.1
   rw[this,if_pos hx];simp
  |false=>
   have c:x≠n:=λe=>by subst e;simp at hq
   cases r.lookup x with
   |some a=>rfl
   |none=>
    dsimp only
    split
    ·simp[c]
    ·rfl
theorem J6{k:ag->Option d6}{x:ag}(hx:k x≠some .local): ∀{binds:List (ag×an)} {m:ag->Option an},(binds.map ai).Nodup->bindC k binds m x=match binds.lookup x with |some v=>some v|none=>m x
 | [],m,_=>rfl
 |(n,v)::r,m,hn=>by
  have b:=dQ.mp hn
  simp only[bindC,J6 hx b.2,j7]
  cases hq:x==n with
  |true=>
   rw[beq_iff_eq]at hq;subst hq
   have :r.lookup x=none:=by
    cases e:r.lookup x with
    |none=>rfl
    |some a=>exact absurd (bF.mpr ⟨(x,a),mem_of_lookup e,rfl⟩) b.1
   rw[this,if_neg hx];simp
  |false=>
   have c:x≠n:=λe=>by subst e;simp at hq
   cases r.lookup x with
   |some a=>rfl
   |none=>
    dsimp only
    split
    ·rfl
    ·simp[c]
noncomputable def eE(b:List (ag×T))(x:ag):Slot:=match b.lookup x with
 |some t=>.val t
 |none=>.any
noncomputable def fh(nm:List (ag×d6)):List ag:=(nm.filter λp=>p.2== .local).map ai
noncomputable def eU(nm:List (ag×d6)):List ag:=((nm.filter λp=>p.2== .cell).map ai).reverse
noncomputable def wD(nm:List (ag×d6))(b:List (ag×T)):cL:=(fh nm).map λx=>(x,eE b x)
noncomputable def uC(nm:List (ag×d6))(b:List (ag×T)):cL:=(eU nm).map λx=>(x,eE b x)
theorem wQ: ∀(nm:List (ag×d6)) (n:Nat) (acc:List (ag×aw)),(zm n nm acc).map ai=eU nm++acc.map ai
 | [],n,acc=>rfl
 |(x,k)::r,n,acc=>by
  unfold zm
  by_cases hk:k= .cell
  ·subst hk
   simp only[beq_self_eq_true,if_true]
   simp only[wQ r];simp[eU]
  ·have :(k==wh)=false:=by simpa using hk
   simp only[this,zn,if_false]
   simp only[wQ r];simp[eU,this]
theorem LR.start{H:PM}{ps:List ag}{ts:List T}{vs:List an}(rs:aF H ts vs){m:ag->Option an}: ∀(xs:List ag),(∀x∈xs,∀v,(ps.zip vs).lookup x=some v->m x=some v)->LR H m (xs.map λx=>(x,eE (ps.zip ts) x)) []
 | [],_=>rfl
 |x::xs,h=>by
  refine⟨[],[],rfl,?_,LR.start rs xs λy a=>h y (.tail _ a)⟩
  unfold eE
  cases e:(ps.zip ts).lookup x with
  |none=>rfl
  |some t=>
   obtain⟨v,ev,rv⟩:=w5 rs e
   exact⟨⟨v,h x (.head _) v ev,rv⟩,rfl⟩
theorem CR.start{H:PM}{ps:List ag}{ts:List T}{vs:List an}{hp:bo}(rs:aF H ts vs){cm:ag->Option an}: ∀(cs:List (ag×aw)),(∀n c,(n,c)∈cs->hp.IsCell c (cm n))->(∀x c,(x,c)∈cs->∀v,(ps.zip vs).lookup x=some v->cm x=some v)->
  ∃lc,CR H cs ((cs.map ai).map λx=>(x,eE (ps.zip ts) x)) lc/\lc.map ai=cs.map ak/\∀p∈lc,hp.get? p.1=some p.2
 | [],_,_=>⟨[],rfl,rfl,λp h=>nomatch h⟩
 |(x,c)::cs,h,h2=>by
  refine aj λa=>?_
  obtain⟨lc,hc,e,hm⟩:=CR.start rs cs (λn c hm=>h n c (.tail _ hm)) λy c hm=>h2 y c (.tail _ hm)
  obtain⟨oc,ho,hd⟩:=h x c (.head _)
  refine a ?_
  refine⟨(c,oc)::lc,⟨rfl,oc,cm x,[],lc,hd,rfl,?_,hc⟩,by simp[e],λp hp=>?_⟩
  ·unfold eE
   cases e:(ps.zip ts).lookup x with
   |none=>rfl
   |some t=>
    obtain⟨v,ev,rv⟩:=w5 rs e
    exact⟨⟨v,h2 x c (.head _) v ev,rv⟩,rfl⟩
  ·rcases bz.mp hp with rfl|hp
   ·exact ho
   ·exact hm p hp
noncomputable def sj:List ag->Bool
 | []=>true
 |x::xs=> !(xs.contains x)&&sj xs
theorem uB: ∀{xs:List ag},sj xs=true->xs.Nodup
 | [],_=>Mj
 |x::xs,h=>by
  rw[sj,cO,zo,Mk,decide_eq_false_iff_not]at h
  exact dQ.mpr ⟨h.1,uB h.2⟩
noncomputable def nc(d:kd):Bool:=sj (d.params.args.map (·.arg))&&sj (d.scope.names.map ai)&&
 (d.params.args.all λa=>dz (d.scope.names.lookup a.arg) .local ||dz (d.scope.names.lookup a.arg) .cell)&&(d.scope.names.all λp=> !(p.1==("__debug__":ag)))&&
 !d.scope.isCoroutine&& !d.scope.isGenerator&&d.scope.kind== .function
theorem ql{k:Option d6}{j:d6}(h:dz k j=true):k=some j:=by
 unfold dz at h
 induction k with
 |none=>cases h
 |some x=>simpa using h
theorem xg: ∀{nm:List (ag×d6)} {x:ag} {k:d6},(nm.map ai).Nodup->(x,k)∈nm->nm.lookup x=some k
 |(y,j)::r,x,k,hn,hm=>by
  have b:=dQ.mp hn
  simp only[j7]
  rcases bz.mp hm with e|a
  ·cases e;simp
  ·cases hq:x==y with
   |true=>simp only[beq_iff_eq]at hq;subst hq;exact absurd (bF.mpr ⟨(x,k),a,rfl⟩:x∈r.map ai) b.1
   |false=>exact xg b.2 a
theorem xS{α:Type}: ∀{cs:List (ag×α)} {x:ag},x∈cs.map ai->(cs.lookup x).isSome=true
 |(y,c)::r,x,h=>by
  simp only[j7]
  cases hq:x==y with
  |true=>rfl
  |false=>
   rcases bz.mp h with e|h
   ·simp at e;subst e;simp at hq
   ·exact xS h
theorem Tm{df:kd}{vs:List an}{H:PM}{l0 l1:av}{S0:St}{A:gq}{s:bt}{hp:bo}{tk:Nat}{fl:av}{R:Result->bt->Prop}(hm:df∈jW G.p)(hb:oK df)(hg:nc df=true)(hlen:vs.length=df.params.args.length)
  (W:S0.l.map ai=fh df.scope.names)
  (hL: ∀m:ag->Option an,(∀x∈fh df.scope.names,∀v,((df.params.args.map (·.arg)).zip vs).lookup x=some v->m x=some v)->LR H m S0.l l0)
  (hC: ∀(hp:bo) (cs:List (ag×aw)) (cm:ag->Option an),cs.map ai=eU df.scope.names->(∀n c,(n,c)∈cs->hp.IsCell c (cm n))->(∀x c,(x,c)∈cs->∀v,((df.params.args.map (·.arg)).zip vs).lookup x=some v->cm x=some v)->
   ∃lc j,CR H cs S0.c j/\j.Perm (lc++l1)/\lc.map ai=cs.map ak/\∀p∈lc,hp.get? p.1=some p.2)
  {a:aw} (ha:G.mg df.name=some (.ref a)) (t:A.depth<recursionLimit) (sp:a5 G hp H ((l0++l1)++fl))
  (h: ∀(Γ:Fm) led g D,Γ.env.scope=df.scope->bd Γ S0 H led->a5 G g H (led++fl)->
   cW G.M (A.deeper Γ.env) (oh df.body Γ.env) (λf s'=>R (.ok (.ret (match f with | .ret v=>v|_=>.none))) s')
    (λe s'=>cW G.M (A.deeper Γ.env) (leaving Γ.env e) (λC I=>R (.error e) I) (λe' I=>R (.error e') I) s') {s with heap:=g,toks:=D}):
  zp G.M A (.call (.ref a) ⟨vs,[]⟩) R {s with heap:=hp,toks:=tk}:=by
 simp only[nc,cO,zo,zq,v9,beq_iff_eq]at hg
 refine aj λi=>?_
 obtain⟨⟨⟨⟨⟨⟨g2,g3⟩,g4⟩,g5⟩,g6⟩,g7⟩,Z⟩:=hg
 have g2:=uB g2
 have g3:=uB g3
 obtain⟨a',o,pm,code,doc,U,ho,mE,yF⟩:=G.top.fn df hm
 obtain rfl:a=a':=by rw[ha]at U;cases U;rfl
 refine i ?_
 have keep: ∀b ob,G.hB.get? b=some ob->hp.get? b=some ob:=λb ob e=>sp.frz b ob (sp.base b ob e)
 have hlv:vs.length=(df.params.args.map (·.arg)).length:=by rw[hlen];simp
 refine(codeAny_call_cells (fd:=docDef df.name df.params df.body df.scope pm code doc) t (keep _ _ ho) mE (G.top.nolimit.keeps keep) (yF.keeps keep) rfl (hb.at hlen _ _ _) rfl (λx hx=>?_) (λeI X=>?_) g6 g7 Z)
 ·have gJ:x.1∈df.params.args.map (·.arg):=(List.of_mem_zip (show(x.1,x.2)∈_ from hx)).1
  refine aj λi=>?_
  obtain⟨ar,P,e⟩:=bF.mp gJ
  refine i ?_
  rcases g4 ar P with q|q
  ·left;rw[← e];exact ql q
  ·right
   have q:=ql q
   rw[e]at q
   refine⟨q,xS ?_⟩
   show x.1∈(zm _ df.scope.names []).map ai
   rw[wQ]
   simp only[eU,List.map_nil,ou,E4,bF,ke]
   exact⟨(x.1,.cell),⟨mem_of_lookup q,rfl⟩,rfl⟩
 ·obtain⟨g,D,rfl,K0⟩:=X.done
  let L:=hp.objs.size
  let env:=callEnvC (docDef df.name df.params df.body df.scope pm code doc) L a
  let cs:=zm (L+1) df.scope.names []
  have ns:g.Ns L (bindL env.kindOf ((df.params.args.map (·.arg)).zip vs) λC=>none):=X.toInCall.ns
  refine aj λi=>?_
  obtain⟨oL,pL,J⟩:=jO.of ns
  refine i ?_
  have E:cs.map ai=eU df.scope.names:=by rw[show cs=zm (L+1) df.scope.names []from rfl,wQ];simp
  have K1:(cs.map ai).Nodup:=by
   rw[E];unfold eU
   exact(E5 _).nodup_iff.mpr ((zr.map ai).nodup g3)
  have S:(((df.params.args.map (·.arg)).zip vs).map ai).Nodup:=by
   rw[List.map_fst_zip (by lia)];exact g2
  have w: ∀n c,(n,c)∈cs->g.IsCell c (bindC env.kindOf ((df.params.args.map (·.arg)).zip vs) (λC=>none) n):=λn c hm=>by
   refine X.cell n c ?_
   have :=xS (x:=n) (bF.mpr ⟨(n,c),hm,rfl⟩)
   refine aj λi=>?_
   obtain⟨c',e⟩:=or.mp this
   refine i ?_
   have key: ∀{l:List (ag×aw)},(l.map ai).Nodup->(n,c)∈l->l.lookup n=some c:=by
    intro l
    induction l with
    |nil=>intro _ h;cases h
    |cons p r ih=>
     obtain⟨y,c0⟩:=p
     intro hn hm
     have cU:=dQ.mp hn
     simp only[j7]
     rcases bz.mp hm with e|B
     ·cases e;simp
     ·cases hq:n==y with
      |true=>simp only[beq_iff_eq]at hq;subst hq;exact absurd (bF.mpr ⟨(n,c),B,rfl⟩:n∈r.map ai) cU.1
      |false=>exact ih cU.2 B
   exact key K1 hm
  have O: ∀x c,(x,c)∈cs->env.kindOf x≠some .local:=λx c hm e=>by
   have :x∈eU df.scope.names:=by rw[← E];exact bF.mpr ⟨(x,c),hm,rfl⟩
   simp only[eU,E4,bF,ke]at this
   obtain⟨⟨y,k⟩,⟨B,hk⟩,rfl⟩:=this
   simp only[beq_iff_eq]at hk
   subst hk
   have e2:df.scope.names.lookup y=some .cell:=xg g3 B
   have e:df.scope.names.lookup y=some .local:=e
   rw[e2]at e;cases e
  refine aj λi=>?_
  obtain⟨lc,j,DV,K2,F,DW⟩:=hC g cs _ E w (λx c hm v ev=>by rw[J6 (O x c hm) S,ev])
  refine i ?_
  have N:Fm.Wf ⟨env,cs,[]⟩:=⟨Z,rfl,rfl,λx c e C=>e,K1⟩
  have Q: ∀x∈fh df.scope.names,env.kindOf x=some .local:=λx hx=>by
   obtain⟨⟨y,k⟩,hm,rfl⟩:=bF.mp hx
   obtain⟨hm,hk⟩:=ke.mp hm
   simp only[beq_iff_eq]at hk
   subst hk
   exact xg g3 hm
  have DX:bd ⟨env,cs,[]⟩ S0 H ((L,oL)::(l0++j)):=by
   refine⟨N,λp hp=>?_,?_,⟨oL,_,l0,j,rfl,J,?_,DV,λp hp=>nomatch hp⟩,λp hp=>nomatch hp⟩
   ·have hx:p.1∈fh df.scope.names:=by rw[← W];exact j6 hp
    refine⟨Q p.1 hx,?_⟩
    obtain⟨⟨y,k⟩,hm,e⟩:=bF.mp hx
    rw[← e]
    exact g5 _ (ke.mp hm).1
   ·rw[W];exact(zr.map ai).nodup g3
   ·exact hL _ λx hx v ev=>by rw[HG (Q x hx) S,ev]
  have z:a5 G g H ((L,oL)::lc++((l0++l1)++fl)):=by
   have Y: ∀p∈(L,oL)::lc,hp.objs.size<=p.1:=λp d=>by
    rcases bz.mp d with rfl|d
    ·exact cR _
    ·have :p.1∈cs.map ak:=by rw[← F];exact j6 d
     obtain⟨⟨n,c⟩,hm,e⟩:=bF.mp this
     rw[← e];exact eP (X.above n c hm)
   have u: ∀b,hp.objs.size<=b->hp.get? b=none:=λb hb=>by
    cases e:hp.get? b with
    |none=>rfl
    |some ob=>exact absurd (gm e) (pT.mpr hb)
   refine⟨sp.base,λb ob e=>K0 b ob (sp.frz b ob e),λp d=>?_,?_⟩
   ·rcases iI.mp d with d|d
    ·refine⟨?_,?_⟩
     ·rcases bz.mp d with rfl|d
      ·exact pL
      ·exact DW p d
     ·cases e:H p.1 with
      |none=>rfl
      |some ob=>have :=sp.frz _ _ e;rw[u _ (Y p d)]at this;cases this
    ·exact⟨K0 _ _ (sp.own p d).1,(sp.own p d).2⟩
   ·rw[jX,List.nodup_append]
    refine⟨?_,sp.nd,λb hb b' gH e=>?_⟩
    ·refine dQ.mpr ⟨λhm=>?_,?_⟩
     ·have hm:L∈cs.map ak:=by rw[← F];exact hm
      obtain⟨⟨n,c⟩,hm,e⟩:=bF.mp hm
      have :=X.above n c hm
      dsimp only at e
      rw[e]at this
      exact jY _ this
     ·rw[F]
      exact(E6.mpr X.apart)
    ·obtain⟨p,d,rfl⟩:=bF.mp hb
     obtain⟨q,hq,rfl⟩:=bF.mp gH
     have h1:=Y p d
     have h2:=gm (sp.own q hq).1
     rw[e]at h1
     exact absurd h2 (pT.mpr h1)
  have qR:a5 G g H ((L,oL)::(l0++j)++fl):=z.perm (by
   simp only[mQ,dR]
   refine gM _ ((q8 lc l0 (l1++fl)).trans (rf l0 ?_))
   rw[← dR]
   exact EW fl K2.symm)
  exact h ⟨env,cs,[]⟩ ((L,oL)::(l0++j)) g D rfl DX qR
theorem ae.ofDef{df:kd}{vs:List an}{H:PM}{l0 l1:av}{S0:St}{Q:an->PM->av->Prop}(hm:df∈jW G.p)(hb:oK df)(hg:nc df=true)(hlen:vs.length=df.params.args.length)
  (e:S0.l.map ai=fh df.scope.names)
  (i: ∀m:ag->Option an,(∀x∈fh df.scope.names,∀v,((df.params.args.map (·.arg)).zip vs).lookup x=some v->m x=some v)->LR H m S0.l l0)
  (hC: ∀(hp:bo) (cs:List (ag×aw)) (cm:ag->Option an),cs.map ai=eU df.scope.names->(∀n c,(n,c)∈cs->hp.IsCell c (cm n))->(∀x c,(x,c)∈cs->∀v,((df.params.args.map (·.arg)).zip vs).lookup x=some v->cm x=some v)->
   ∃lc b,CR H cs S0.c b/\b.Perm (lc++l1)/\lc.map ai=cs.map ak/\∀p∈lc,hp.get? p.1=some p.2)
  (h: ∀(Γ:Fm) led,Γ.env.scope=df.scope->bd Γ S0 H led->ae G d H led (oh df.body Γ.env) λf H' l=>Q (match f with | .ret v=>v|_=>.none) H' l):
  ∃a,G.mg df.name=some (.ref a)/\ae G (d+1) H (l0++l1) (fU (.ref a) vs) Q:=by
 refine aj λr=>?_
 obtain⟨a,o,pm,code,doc,ha,ho,mE,yF⟩:=G.top.fn df hm
 refine r ?_
 refine⟨a,ha,λA s hp tk fl ok sp=>wpAny_call (Tm hm hb hg hlen e i hC ha (by have :=ok.2.1;lia) sp λΓ led cF yE u hs g=>?_)⟩
 have w:Ok (A.deeper Γ.env) d:=⟨ok.1,by have :=ok.2.1;show A.depth+1+d+120<_;lia,by have :=ok.2.2;show A.units+3+8*d+16<_;lia⟩
 refine ae.to (h Γ led u hs) w g λf h2 k H2 l2 t j q=>?_
 exact⟨h2,k,H2,l2,rfl,t,j,q⟩
theorem gh.ofDef{df:kd}{ts:List T}{Q:T->Prop}(hm:df∈jW G.p)(hb:oK df)(hg:nc df=true)(hl:ts.length=df.params.args.length)
  (h: ∀Γ:Fm,Γ.env.scope=df.scope->eH G d Γ ⟨wD df.scope.names ((df.params.args.map (·.arg)).zip ts),uC df.scope.names ((df.params.args.map (·.arg)).zip ts)⟩ df.body
   λo S'=>∃t,(o= .ret t\/(o= .next/\t= .none))/\Q t):gh G (d+1) df.name ts Q:=by
 refine aj λb=>?_
 obtain⟨a,o,pm,code,doc,ha,_⟩:=G.top.fn df hm
 refine b ?_
 refine⟨a,ha,λH vs rs=>?_⟩
 obtain⟨u,e,k⟩:=ae.ofDef (G:=G) (d:=d) (vs:=vs) (H:=H) (l0:=[]) (l1:=[]) (S0:=⟨wD df.scope.names ((df.params.args.map (·.arg)).zip ts),uC df.scope.names ((df.params.args.map (·.arg)).zip ts)⟩) (Q:=λv H' l=>l=[]/\∃t,VR H' t v/\Q t) hm hb hg (by rw[rs.length,hl])
  (by unfold wD;simp only[jy,show(ai ∘ λx=>(x,eE ((df.params.args.map (·.arg)).zip ts) x))=id from rfl,zj])
  (λm r=>LR.start rs _ λx hx v ev=>r x hx v ev)
  (λhp cs cm hk n i=>by
   refine aj λb=>?_
   obtain⟨lc,z,j,y⟩:=CR.start (hp:=hp) (ps:=df.params.args.map (·.arg)) rs cs n i
   refine b ?_
   refine⟨lc,lc,?_,by rw[ou],j,y⟩
   show CR H cs (uC df.scope.names _) lc
   unfold uC;rw[← hk];exact z)
  λΓ led s hs=>ae.post (h Γ s H led hs) λf H' l le g=>by obtain⟨oo,S',c,s',t,w,q⟩:=g;exact(⟨l,[],by rw[ou],rfl,t,by
   rcases w with rfl|⟨rfl,rfl⟩
   ·obtain⟨v,rfl,rv⟩:=c;exact rv
   ·rw[show f= .next from c];exact VR.ofNone,q⟩)
 obtain rfl:a=u:=by simp only[ha]at e;cases e;rfl
 exact k
end
section
variable {G:aK} {d:Nat} {Γ:Fm} {S:St}
noncomputable def mq(env:c6):List (ag×d6)->List (ag×aw)->List (ag×aw)
 | [],acc=>acc
 |(n,k)::r,acc=>if k== .free then mq env r ((n,(env.cells.lookup n).getD 0)::acc)else mq env r acc
theorem ND{scope:b9}{env:c6}(h: ∀n,(n,lV)∈scope.names->(env.cells.lookup n).isSome=true):closureFor scope env=aH (mq env scope.names []):=by
 unfold closureFor
 generalize scope.names=nm at h
 have key: ∀(nm:List (ag×d6)) (acc:List (ag×aw)),(∀n,(n,lV)∈nm->(env.cells.lookup n).isSome=true)->
   (forIn (m:=bX) nm acc λx cs=>match x with
    |(name,kind)=>if(kind==lV)=true then do let a ← cellOf env name;aH (ForInStep.yield ((name,a)::cs))else aH (ForInStep.yield cs))=aH (mq env nm acc):=by
  intro nm
  induction nm with
  |nil=>intro acc _;rfl
  |cons p r b=>
   obtain⟨n,k⟩:=p
   intro acc h
   simp only[List.forIn_cons]
   unfold mq
   by_cases hk:(k==lV)=true
   ·have c:k= .free:=by simpa using hk
    refine aj λe=>?_
    obtain⟨a,ha⟩:=or.mp (h n ((c).symm▸ .head _))
    refine e ?_
    have d:cellOf env n=aH a:=by unfold cellOf;rw[ha]
    simp only[hk,if_true,d,pure_bind,ha,Option.getD_some]
    exact b _ λn hm=>h n (.tail _ hm)
   ·have hk:(k==lV)=false:=by simpa using hk
    simp only[hk,zn,if_false,pure_bind]
    exact b _ λn hm=>h n (.tail _ hm)
 have :=key nm [] h
 simp only[]at this ⊢
 rw[show(forIn (m:=bX) nm ([]:List (ag×aw)) _)=_ from this]
 rfl
theorem BX{env:c6}{x:ag}: ∀{nm:List (ag×d6)} {acc:List (ag×aw)},(∀n,(n,lV)∈nm->(env.cells.lookup n).isSome=true)->
  ((x,lV)∈nm\/acc.lookup x=env.cells.lookup x)->(∀y,(acc.lookup y).isSome=true->acc.lookup y=env.cells.lookup y)->(mq env nm acc).lookup x=env.cells.lookup x
 | [],acc,_,h,_=>h.elim (λh=>nomatch h) id
 |(n,k)::r,acc,b,h,inv=>by
  unfold mq
  by_cases hk:(k==lV)=true
  ·have d:k= .free:=by simpa using hk
   obtain⟨a,ha⟩:=or.mp (b n ((d).symm▸ .head _))
   rw[if_pos hk,ha]
   refine BX (λn hm=>b n (.tail _ hm)) ?_ ?_
   ·by_cases hx:x=n
    ·subst hx;right;simp[ha]
    ·rcases h with h|h
     ·rcases bz.mp h with e|h
      ·cases e;exact absurd rfl hx
      ·exact .inl h
     ·right;simp only[j7]
      have :(x==n)=false:=by simpa using hx
      rw[this];exact h
   ·intro y c
    simp only[j7]at c ⊢
    cases hq:y==n with
    |true=>rw[beq_iff_eq]at hq;subst hq;simp[ha]
    |false=>rw[hq]at c;exact inv y c
  ·rw[if_neg hk]
   refine BX (λn hm=>b n (.tail _ hm)) ?_ inv
   rcases h with h|h
   ·rcases bz.mp h with e|h
    ·cases e;exact absurd rfl hk
    ·exact .inl h
   ·exact .inr h
noncomputable def ff(nm a:List (ag×d6)):List (ag×d6):=a.map λ(n,k)=>if(k== .free&&dz (nm.lookup n) .cell)then(n,.cell)else(n,k)
theorem Ik{k:Option d6}{j:d6}:dz k j=(k==some j):=by cases k<;>rfl
theorem Uh{scope:b9}{env:c6}(hk:env.scope.kind= .function):(relabel scope env).names=ff env.scope.names scope.names:=by
 unfold relabel ff
 simp only[hk,beq_self_eq_true,Bool.and_true,Ik]
 rfl
noncomputable def iw(nm:List (ag×d6))(ks:List ag)(scope:b9):Bool:=
 sj (scope.names.map ai)&&(scope.names.all λp=> !(p.1==("__debug__":ag)))&&(scope.names.all λp=> !(p.2== .cell))&&scope.kind== .function&&
 (scope.names.all λp=> !(p.2== .free)||((dz (nm.lookup p.1) .cell ||dz (nm.lookup p.1) .free)&&ks.contains p.1))
noncomputable def mB(scope:b9):cL:=(fh scope.names).map λx=>(x,.any)
theorem HH{f:ag->d6->d6}: ∀{nm:List (ag×d6)} {x:ag},(nm.map λp=>(p.1,f p.1 p.2)).lookup x=(nm.lookup x).map (f x)
 | [],_=>rfl
 |(n,k)::r,x=>by
  simp only[gr,j7,j7]
  cases hq:x==n with
  |true=>rw[beq_iff_eq]at hq;subst hq;rfl
  |false=>exact HH
theorem Pa{nm a:List (ag×d6)}{x:ag}:(ff nm a).lookup x=(a.lookup x).map λk=>if(k== .free&&dz (nm.lookup x) .cell)then .cell else k:=by
 have e:ff nm a=a.map λp=>(p.1,(λn k=>if(k== .free&&dz (nm.lookup n) .cell)then wh else k) p.1 p.2):=by
  unfold ff
  refine tN λp z_=>?_
  obtain⟨n,k⟩:=p
  dsimp only
  split<;>rfl
 simp only[e]
 exact HH (f:=λn k=>if(k== .free&&dz (nm.lookup n) .cell)then wh else k)
noncomputable def nw(tgt:Expr)(ifs:List Expr)(p:ax)(body:bX PUnit)(c:Code)(it:an)(env:c6):bX Fin:=do
 mO p
 match ← tH it with
 |none=>pure (.done .next)
 |some v=>
  tG tgt it v
  kW tgt env v
  let mut ok:=true
  for c in ifs do
   if ok then ok ← isTrue c env (eval c env)
  if ok then body
  again c
noncomputable def xx(D:aw)(elt:Expr)(env:c6):bX PUnit:=do let _ ← call (.builtin "list.append") [.ref D, ← eval elt env]
noncomputable def xP(e:Expr)(i2:Expr)(D:aw)(env:c6):bX PUnit:=do
 let x ← eval i2 env
 mO i2.pos
 let x ← Mf i2 env x
 let _ ← runOwn (.compStart e 1 (← j5 [x] (wa x)) (.ref D) env) env
theorem I2(elt tgt iter:Expr)(ifs:List Expr)(scope:b9)(pos:ax)(it:an)(D:aw)(env:c6):
 ox (.ListComp elt [⟨tgt,iter,ifs,0⟩] scope pos) 0 it (.ref D) env=nw tgt ifs iter.pos (xx D elt env) (.compLoop (.ListComp elt [⟨tgt,iter,ifs,0⟩] scope pos) 0 it (.ref D) env) it env:=by rfl
theorem Ji(elt t1 i1 t2 i2:Expr)(scope:b9)(pos:ax)(it:an)(D:aw)(env:c6):
  ox (.ListComp elt [⟨t1,i1,[],0⟩,⟨t2,i2,[],0⟩] scope pos) 0 it (.ref D) env=nw t1 [] i1.pos (xP (.ListComp elt [⟨t1,i1,[],0⟩,⟨t2,i2,[],0⟩] scope pos) i2 D env) (.compLoop (.ListComp elt [⟨t1,i1,[],0⟩,⟨t2,i2,[],0⟩] scope pos) 0 it (.ref D) env) it env:=by
 have e:ox (.ListComp elt [⟨t1,i1,[],0⟩,⟨t2,i2,[],0⟩] scope pos) 0 it (.ref D) env=(do
  mO i1.pos
  match ← tH it with
  |none=>pure (.done .next)
  |some v=>
   tG t1 it v
   kW t1 env v
   let mut ok:=true
   for c in([]:List Expr) do
    if ok then ok ← isTrue c env (eval c env)
   if ok then
    let x ← eval i2 env
    mO i2.pos
    let x ← Mf i2 env x
    let _ ← runOwn (.compStart (.ListComp elt [⟨t1,i1,[],0⟩,⟨t2,i2,[],0⟩] scope pos) 1 (← j5 [x] (wa x)) (.ref D) env) env
   again (.compLoop (.ListComp elt [⟨t1,i1,[],0⟩,⟨t2,i2,[],0⟩] scope pos) 0 it (.ref D) env)):=by rfl
 rw[e]
 unfold nw xP
 congr 1;funext _;congr 1;funext r
 induction r with
 |none=>rfl
 |some v=>
  dsimp only
  congr 1;funext _;congr 1;funext _;congr 1;funext b
  cases b<;>simp only[bind_assoc,pure_bind,if_true,zn,if_false]
theorem Pe(elt t1 i1 t2 i2:Expr)(scope:b9)(pos:ax)(it:an)(D:aw)(env:c6):
 ox (.ListComp elt [⟨t1,i1,[],0⟩,⟨t2,i2,[],0⟩] scope pos) 1 it (.ref D) env=nw t2 [] i2.pos (xx D elt env) (.compLoop (.ListComp elt [⟨t1,i1,[],0⟩,⟨t2,i2,[],0⟩] scope pos) 1 it (.ref D) env) it env:=by rfl
inductive ye(Γ':Fm)(D:aw)(P:List T->St->Prop)(H':PM)(l':av):Prop
 |mk (oD:bn) (vs:List an) (acc:List T) (X:St) (l:av) (e:l'=(D,oD)::l) (hD:cj oD vs) (rs:aF H' acc vs) (hx:bd Γ' X H' l) (p:P acc X)
def uE(G:aK)(d:Nat)(Γ':Fm)(D:aw)(X:St)(acc:List T)(body:bX PUnit)(P:List T->St->Prop):Prop:=
 ∀H l oD vs,cj oD vs->aF H acc vs->bd Γ' X H l->ae G d H ((D,oD)::l) body λz_=>ye Γ' D P
def AJ(G:aK)(d:Nat)(Γ':Fm)(D:aw)(tgt:Expr)(ifs:List Expr)(body:bX PUnit)(bl:List T)(J:Nat->List T->St->Prop):Prop:=
 ∀k t acc X,bl[k]? =some t->J k acc X->∃X2,iO Γ' tgt t X X2/\match ifs with
  | []=>uE G d Γ' D X2 acc body (J (k+1))
  | [c]=>Tr G d Γ' X2 c λb X3=>(b=false->J (k+1) acc X3)/\(b=true->uE G d Γ' D X3 acc body (J (k+1)))
  |_=>False
theorem BR{Γ':Fm}{D:aw}{X:St}{acc:List T}{elt:Expr}{P:List T->St->Prop}(hz:acc.length<bO)(h:Ev G d Γ' X elt λu X4=>P (acc++[u]) X4):uE G d Γ' D X acc (xx D elt Γ'.env) P:=by
 intro H l oD vs hD rs hx
 refine ae.bind (ae.perm (ae.mono (ae.frame (fr:=[(D,oD)]) (h H l hx)) λu H' l' le a=>?_) (Xv (D,oD) l).symm)
 obtain⟨l2,e,t,X4,rt,b,q⟩:=a
 subst e
 have hl:=rs.length
 refine ae.bind (ae.perm (ae.mono (ae.frame (fr:=l2) (ae.append (v:=u) hD (by lia))) λz_ H2 l3 aV a=>?_) gO)
 obtain⟨l4,e,e0,c,g,el,f⟩:=a
 subst e c el
 exact ae.pure ⟨g,_,acc++[t],X4,l2,rfl,f,(rs.mono le).append (aF.cons rt aF.nil),b,q⟩
inductive IT(G:aK)(Γ':Fm)(D:aw)(bl:List T)(st:Nat->PM->av->Prop)(J:Nat->List T->St->Prop)(s:bt)(fl:av)(H:PM)(n:Nat)(s':bt):Prop
 |mk (k:Nat) (h':bo) (aU:Nat) (H':PM) (l' li:av) (en:n=bl.length-k) (hk:k<=bl.length) (es:s'={s with heap:=h',toks:=aU}) (le:Le H H') (sp:a5 G h' H' (li++(l'++fl))) (i:st k H' li) (ap:ye Γ' D (J k) H' l')
theorem Qw{elt:Expr}{gens:List pU}{scope:b9}{pos:ax}{depth:Nat}{tgt:Expr}{ifs:List Expr}{p:ax}{body:bX PUnit}{bl:List T}{J:Nat->List T->St->Prop}{it:an}{D:aw}{Γ':Fm}{st:Nat->PM->av->Prop}
  (he:ox (.ListComp elt gens scope pos) depth it (.ref D) Γ'.env=nw tgt ifs p body (.compLoop (.ListComp elt gens scope pos) depth it (.ref D) Γ'.env) it Γ'.env) (z:f8 G d tgt it bl st) (lL:AJ G d Γ' D tgt ifs body bl J)
  {A:gq} {s:bt} {fl:av} {H:PM} {R:Result->bt->Prop} (ok:Ok A d)
  (hR: ∀h' aU H' l',Le H H'->a5 G h' H' (l'++fl)->ye Γ' D (J bl.length) H' l'->R (.ok .next) {s with heap:=h',toks:=aU})
  {h:bo} {tk:Nat} {oD:bn} {vs:List an} {acc:List T} {li f:av} {X:St} (sp:a5 G h H (((D,oD)::(li++f))++fl)) (hD:cj oD vs) (rs:aF H acc vs) (hi:st 0 H li) (hx:bd Γ' X H f) (B:J 0 acc X):
  zp G.M A (.compLoop (.ListComp elt gens scope pos) depth it (.ref D) Γ'.env) R {s with heap:=h,toks:=tk}:=by
 refine codeAny_loop rfl (IT G Γ' D bl st J s fl H) ?_ bl.length
  ⟨0,h,tk,H,(D,oD)::f,li,rfl,dx _,rfl,.refl _,sp.perm ?_,hi,oD,vs,acc,X,f,rfl,hD,rs,hx,B⟩
 ·rintro n s' ⟨k,h1,yA,H1,l1,li,en,hk,rfl,I,ju,hi,oD,vs,acc,X,f,rfl,hD,F,hx,B⟩
  show cW _ A ((ox (.ListComp elt gens scope pos) depth it (.ref D) Γ'.env).onRaise (λx=>do noteFrame x Γ'.env;theTreesLotGoes x)) _ _ _
  refine wpAny_noted ?_
  rw[he]
  refine bN (vZ (bN ?_))
  by_cases S:k<bl.length
  ·have ht:bl[k]? =some bl[k]:=kT S
   refine ae.to (z.item k _ H1 li ht hi) ok ju λr h2 dD H2 l2 q O t=>?_
   obtain⟨v,N,rv,DT⟩:=t
   subst N
   refine bN (ae.to DT ok O λg h3 yB H3 l3 P eO qP=>?_)
   obtain⟨X2,hb,C⟩:=lL k _ acc X ht B
   have E:(l3++(((D,oD)::f)++fl)).Perm (f++((D,oD)::(l3++fl))):=by
    have e1:(l3++(((D,oD)::f)++fl)).Perm ((D,oD)::(l3++(f++fl))):=by
     simp only[mQ];exact e8
    exact e1.trans (oj (gM _ (q8 l3 f fl)) e8.symm)
   refine bN (ae.to (iO.run (Q:=λg H' l=>H'=H3/\bd Γ' X2 H3 l) hb (hx.mono (q.trans P)) (rv.mono P) λl s=>⟨rfl,s⟩) ok (eO.perm E) λg h4 yC U l4 nQ mH t=>?_)
   obtain⟨e4,s4⟩:=t
   subst e4
   have u:Le H1 U:=q.trans P
   have K3: ∀a:av,(a++((D,oD)::(l3++fl))).Perm (((D,oD)::a)++(l3++fl)):=λa=>e8
   have K4: ∀j:av,(j++(l3++fl)).Perm (l3++(j++fl)):=λj=>q8 j l3 fl
   have fin: ∀{X3:St} {h5:bo} {w:Nat} {o:PM} {a:av},Le U o->a5 G h5 o (a++((D,oD)::(l3++fl)))->bd Γ' X3 o a->uE G d Γ' D X3 acc body (J (k+1))->
     cW G.M A body (λg Y=>∃m,m<n/\IT G Γ' D bl st J s fl H m Y)
      (notedBy G.M A Γ'.env λe s'=>R (.error e) s') {s with heap:=h5,toks:=w}:=λ{X3 h5 w o a} i y s5 L=>by
    refine ae.to (L o a oD vs hD (F.mono (u.trans i)) s5) ok (y.perm (K3 a)) λg h6 KT H6 j Z DU ap=>?_
    exact⟨bl.length-(k+1),by omega,k+1,h6,KT,H6,j,l3,rfl,S,rfl,((I.trans u).trans i).trans Z,DU.perm (K4 j),z.mono _ _ _ _ (i.trans Z) qP,ap⟩
   induction ifs with
   |nil=>
    refine bN (wpAny_tests_nil ?_)
    exact bN (eg (fin (.refl _) mH s4 C) (λg Y W=>dq ⟨rfl,W⟩) λg g h'=>h')
   |cons c cs=>
    induction cs with
    |cons _ _=>exact C.elim
    |nil=>
     refine bN (wpAny_tests_one (ae.to (C U l4 s4) ok mH λb h5 w o a i y t=>?_))
     obtain⟨X3,s5,q1,q2⟩:=t
     induction b with
     |true=>exact bN (eg (fin i y s5 (q2 rfl)) (λg Y W=>dq ⟨rfl,W⟩) λg g h'=>h')
     |false=>exact dq ⟨rfl,bl.length-(k+1),by omega,k+1,h5,w,o,(D,oD)::a,l3,rfl,S,rfl,(I.trans u).trans i,(y.perm (K3 a)).perm (K4 _),z.mono _ _ _ _ i qP,oD,vs,acc,X3,a,rfl,hD,F.mono (u.trans i),s5,q1 rfl⟩
  ·have ek:k=bl.length:=by lia
   subst ek
   refine ae.to (z.done H1 li hi) ok ju λr h2 dD H2 l2 q O N=>?_
   subst N
   exact dq (hR h2 dD H2 _ (I.trans q) (a5.drop (l:=l2) O) ⟨oD,vs,acc,X,f,rfl,hD,F.mono q,hx.mono q,B⟩)
 ·simp only[mQ,dR]
  exact e8.symm
theorem KI{elt:Expr}{gens:List pU}{scope:b9}{pos:ax}{depth:Nat}{g:pU}{tgt:Expr}{ifs:List Expr}{p:ax}{body:bX PUnit}{bl:List T}{J:Nat->List T->St->Prop}{it:an}{D:aw}{Γ':Fm}{st:Nat->PM->av->Prop}
  (hg:(clausesOf (.ListComp elt gens scope pos))[depth]? =some g) (ha:g.is_async=0) (he: ∀it,ox (.ListComp elt gens scope pos) depth it (.ref D) Γ'.env=nw tgt ifs p body (.compLoop (.ListComp elt gens scope pos) depth it (.ref D) Γ'.env) it Γ'.env) (f:f8 G d tgt it bl st) (j:AJ G d Γ' D tgt ifs body bl J)
  {A:gq} {s:bt} {fl:av} {H:PM} {R:Result->bt->Prop} (ok:Ok A d)
  (hR: ∀h' aU H' l',Le H H'->a5 G h' H' (l'++fl)->ye Γ' D (J bl.length) H' l'->R (.ok .next) {s with heap:=h',toks:=aU})
  {h:bo} {b:Nat} {oD:bn} {vs:List an} {acc:List T} {li a:av} {X:St} (sp:a5 G h H (((D,oD)::(li++a))++fl)) (hD:cj oD vs) (rs:aF H acc vs) (hi:st 0 H li) (hx:bd Γ' X H a) (k:J 0 acc X):
  zp G.M A (.compStart (.ListComp elt gens scope pos) depth it (.ref D) Γ'.env) R {s with heap:=h,toks:=b}:=by
 have one: ∀{h b H1 li},Le H H1->a5 G h H1 (((D,oD)::(li++a))++fl)->st 0 H1 li->zp G.M A (.compLoop (.ListComp elt gens scope pos) depth it (.ref D) Γ'.env) R {s with heap:=h,toks:=b}:=λ{h b H1 li} le sp hi=>
  Qw (he it) f j ok (λh' aU H' l' o=>hR h' aU H' l' (le.trans o)) sp hD (rs.mono le) hi (hx.mono le) k
 refine codeAny_of_tree ?_
 refine wpAny_notedAt ?_
 unfold compStart
 rw[hg]
 have n:(Option.elim (some g) false λx=>x.is_async !=0)=false:=by show(g.is_async !=0)=false;rw[ha];rfl
 rw[n]
 show cW _ _ (ask>>=_) _ _ _
 refine bN (wpAny_askSetting (wpAny_ite ?_))
 split
 ·first
   |exact bN (dq (dq (And.intro rfl (one (.refl _) sp hi))))
   |exact dq (And.intro rfl (one (.refl _) sp hi))
 ·have c:(((D,oD)::(li++a))++fl).Perm (li++((D,oD)::(a++fl))):=by
   simp only[mQ,dR]
   exact e8.symm
  refine bN (EO ?_)
  refine bN (vZ (bN (ae.to (f.again 0 H li hi) ok (sp.perm c) λv h4 yC H4 l4 nQ i m=>?_)))
  obtain⟨ev,l,e⟩:=m
  subst ev l e
  refine dq (And.intro rfl (one (.refl _) (i.perm ?_) hi))
  simp only[mQ,dR]
  exact e8
def vf(G:aK)(d:Nat)(Γ:Fm)(S:St)(tgt iter:Expr)(ifs:List Expr)(body:aw->c6->bX PUnit)(scope:b9)(Q:List T->St->Prop):Prop:=
 ck G d Γ S tgt iter λbl S1=>∃J:Nat->List T->St->Prop,J 0 [] ⟨mB scope,S1.c⟩/\
  (∀(Γ':Fm) D,Γ'.env.scope.names=ff Γ.env.scope.names scope.names->AJ G d Γ' D tgt ifs (body D Γ'.env) bl J)/\∀acc X,J bl.length acc X->acc.length<=bO/\Q acc ⟨S1.l,X.c⟩
def KG(G:aK)(d:Nat)(Γ':Fm)(elt:Expr)(ifs:List Expr)(X2:St)(e:St->Prop)(a:T->St->Prop):Prop:=match ifs with
 | []=>Ev G d Γ' X2 elt a
 | [c]=>Tr G d Γ' X2 c λb X3=>(b=false->e X3)/\(b=true->Ev G d Γ' X3 elt a)
 |_=>False
def nF(G:aK)(d:Nat)(Γ:Fm)(S:St)(tgt elt iter:Expr)(ifs:List Expr)(scope:b9)(Q:List T->St->Prop):Prop:=
 ck G d Γ S tgt iter λbl S1=>∃J:Nat->List T->St->Prop,J 0 [] ⟨mB scope,S1.c⟩/\
  (∀Γ':Fm,Γ'.env.scope.names=ff Γ.env.scope.names scope.names->∀k t acc X,bl[k]? =some t->J k acc X->∃X2,iO Γ' tgt t X X2/\KG G d Γ' elt ifs X2 (J (k+1) acc) λu=>J (k+1) (acc++[u]))/\(∀k acc X,J k acc X->acc.length<bO)/\∀acc X,J bl.length acc X->Q acc ⟨S1.l,X.c⟩
theorem ck.mono{tgt e:Expr}{Q Q':List T->St->Prop}(h:ck G d Γ S tgt e Q)(hq: ∀t S,Q t S->Q' t S):ck G d Γ S tgt e Q':=
 λH led hs=>(h H led hs).mono λx H1 l1 le k=>k.mono λit H' l aV x=>by obtain⟨bl,S',st,li,ls,e,i,z,s,q⟩:=x;exact⟨bl,S',st,li,ls,e,i,z,s,hq _ _ q⟩
theorem nF.g{tgt elt iter:Expr}{ifs:List Expr}{scope:b9}{Q:List T->St->Prop}(h:nF G d Γ S tgt elt iter ifs scope Q):vf G d Γ S tgt iter ifs (λD env=>xx D elt env) scope Q:=by
 refine ck.mono h λbl S1 j=>?_
 obtain⟨J,f,step,hz,fin⟩:=j
 refine⟨J,f,λΓ' D hn k t acc X i a=>?_,λacc X a=>⟨eP (hz _ _ _ a),fin acc X a⟩⟩
 obtain⟨X2,hb,h2⟩:=step Γ' hn k t acc X i a
 refine⟨X2,hb,?_⟩
 revert h2
 cases ifs with
 |nil=>exact λh2=>BR (hz _ _ _ a) h2
 |cons c cs=>
  induction cs with
  |nil=>exact λh2=>Tr.mono h2 λb X3 q=>⟨q.1,λe=>BR (hz _ _ _ a) (q.2 e)⟩
  |cons _ _=>exact rg
def rY(G:aK)(d:Nat)(Γ:Fm)(S:St)(t1 i1 t2 i2 elt:Expr)(scope:b9)(Q:List T->St->Prop):Prop:=
 ck G d Γ S t1 i1 λbl S1=>∃J:Nat->List T->St->Prop,J 0 [] ⟨mB scope,S1.c⟩/\
  (∀Γ':Fm,Γ'.env.scope.names=ff Γ.env.scope.names scope.names->∀k t acc X,bl[k]? =some t->J k acc X->∃X2,iO Γ' t1 t X X2/\ck G d Γ' X2 t2 i2 λb X3=>∃a:Nat->List T->St->Prop,a 0 acc X3/\
   (∀j u acc X,b[j]? =some u->a j acc X->acc.length<bO/\∃X4,iO Γ' t2 u X X4/\Ev G d Γ' X4 elt λw e=>a (j+1) (acc++[w]) e)/\∀acc X,a b.length acc X->J (k+1) acc X)/\
  ∀acc X,J bl.length acc X->acc.length<=bO/\Q acc ⟨S1.l,X.c⟩
theorem Ug{Γ':Fm}{D:aw}{X:St}{acc:List T}{elt t1 i1 t2 i2:Expr}{scope:b9}{pos:ax}{P:List T->St->Prop}(C:dX i2=true)
  (h:ck G d Γ' X t2 i2 λi X3=>∃f:Nat->List T->St->Prop,f 0 acc X3/\
   (∀j u acc X,i[j]? =some u->f j acc X->acc.length<bO/\∃X4,iO Γ' t2 u X X4/\Ev G d Γ' X4 elt λw M=>f (j+1) (acc++[w]) M)/\∀acc X,f i.length acc X->P acc X):
  uE G d Γ' D X acc (xP (.ListComp elt [⟨t1,i1,[],0⟩,⟨t2,i2,[],0⟩] scope pos) i2 D Γ'.env) P:=by
 intro H l oD vs hD rs hx A s hp tk fl ok sp
 have pm: ∀l':av,(((D,oD)::l')++fl).Perm (l'++((D,oD)::fl)):=λl'=>e8.symm
 refine bN (ae.to (h H l hx) ok (sp.perm (pm l)) λx h1 yA H1 l1 k p o=>?_)
 refine bN (vZ (bN (wpAny_of_eq (Ca C) (bN (tD (ae.to o ok p λit h2 dD H2 l2 m E I=>?_))))))
 refine aj λL=>?_
 obtain⟨bl,S1,st,li,ls,el,v,y,s1,f,r,step,fin⟩:=I
 refine L ?_
 subst el
 refine bN (wpAny_runOwn (KI (g:=⟨t2,i2,[],0⟩) (J:=f) rfl rfl (λit=>Pe elt t1 i1 t2 i2 scope pos it D Γ'.env) v (λj t acc X z B=>?_) ok (λh' aU H' l' N F ap=>?_) (E.perm ((pm _).symm)) hD (rs.mono (k.trans m)) y s1 r) (by decide))
 ·obtain⟨hz,X4,hb,he⟩:=step j t acc X z B
  exact⟨X4,hb,BR hz he⟩
 ·obtain⟨O,bA,n,X',l2,e,a,b,c,q⟩:=ap
  exact dq ⟨h',aU,H',l',rfl,(k.trans m).trans N,F,O,bA,n,X',l2,e,a,b,c,fin n X' q⟩
theorem rY.g{t1 i1 t2 i2 elt:Expr}{scope:b9}{pos:ax}{Q:List T->St->Prop}(e:dX i2=true)(h:rY G d Γ S t1 i1 t2 i2 elt scope Q):vf G d Γ S t1 i1 [] (λD env=>xP (.ListComp elt [⟨t1,i1,[],0⟩,⟨t2,i2,[],0⟩] scope pos) i2 D env) scope Q:=by
 refine ck.mono h λbl S1 f=>?_
 refine aj λi=>?_
 obtain⟨J,a,step,fin⟩:=f
 refine i ?_
 refine⟨J,a,λΓ' D hn k t acc X b c=>?_,fin⟩
 obtain⟨X2,hb,h2⟩:=step Γ' hn k t acc X b c
 exact⟨X2,hb,Ug e h2⟩
theorem Gy{tgt elt iter:Expr}{ifs:List Expr}{rest:List pU}{body:aw->c6->bX PUnit}{scope:b9}{pos u:ax}{use:Option (an->bX Unit)}{Q:List T->St->Prop}{Q':an->bt->Prop}{E:an->bt->Prop}{H:PM}{led fl:av}{A:gq}{s:bt}{hp:bo}{tk:Nat}
  (eY:dX iter=true) (hg:iw Γ.env.scope.names (S.c.map ai) scope=true) (he: ∀it D env,ox (.ListComp elt (⟨tgt,iter,ifs,0⟩::rest) scope pos) 0 it (.ref D) env=nw tgt ifs iter.pos (body D env) (.compLoop (.ListComp elt (⟨tgt,iter,ifs,0⟩::rest) scope pos) 0 it (.ref D) env) it env) (h:vf G d Γ S tgt iter ifs body scope Q)
  (hs:bd Γ S H led) (ok:Ok A d) (sp:a5 G hp H (led++fl))
  (D5: ∀D C h' aU H' acc oD vs j m bV S',Le H H'->a5 G h' H' ((C,j)::(D,oD)::(bV++fl))->jO j m->cj oD vs->aF H' acc vs->acc.length<=bO->bd Γ S' H' bV->Q acc S'->
   compPost G.M A E use Q' (.ref D) C (.ok .next) {s with heap:=h',toks:=aU}):
  cW G.M A (comprehension (.ListComp elt (⟨tgt,iter,ifs,0⟩::rest) scope pos) scope Γ.env u (newList []) false (eval iter Γ.env) use) Q' E {s with heap:=hp,toks:=tk}:=by
 simp only[iw,cO,zq,zo,v9,beq_iff_eq,Mk,decide_eq_true_eq]at hg
 refine aj λf=>?_
 obtain⟨⟨⟨⟨g1,g2⟩,g3⟩,g4⟩,g5⟩:=hg
 refine f ?_
 have g1:=uB g1
 have vz:S.c.map ai=Γ.ca.map ai:=by
  refine aj λf=>?_
  obtain⟨oL,m,lo,lc,e,a,b,c,_⟩:=hs.led
  refine f ?_
  exact c.keys
 have K6: ∀n,(n,lV)∈scope.names->∃c,Γ.env.cells.lookup n=some c/\Γ.ca.lookup n=some c:=λn hm=>by
  rcases g5 _ hm with q|⟨q,q2⟩
  ·simp at q
  ·obtain⟨c,hc⟩:=or.mp (xS (cs:=Γ.ca) (x:=n) (by rw[← vz];exact q2))
   exact⟨c,hs.wf.cells n c hc (q.imp ql ql),hc⟩
 have K7: ∀n,(n,lV)∈scope.names->(Γ.env.cells.lookup n).isSome=true:=λn hm=>let⟨c,e,_⟩:=K6 n hm;by rw[e];rfl
 have K8: ∀x∈scope.names,x.2= .local->scope.names.lookup x.1=some .local:=λx hx e=>by
  obtain⟨n,k⟩:=x
  dsimp only at e
  subst e
  exact xg g1 hx
 refine wpAny_comprehension_free (cl:=mq Γ.env scope.names []) rfl (λz_=>Ca eY) (ND K7) g4 K8 ?_
 refine ae.to (h H led hs) ok sp λx h1 yA H1 l1 iB ju k1=>?_
 refine ae.to k1 ok ju λit h2 dD H2 l2 aV dv az=>?_
 refine aj λf=>?_
 obtain⟨bl,S1,st,li,ls,el,iY,iX,s1,J,j0,vB,Z⟩:=az
 refine f ?_
 subst el
 refine tF (T:="list") (dict:=none) (wpAny_newFunctionEnv (λy v e=>by have :=g3 y v;rw[e]at this;cases this) (by intro y v;simp at v) (λh3 Y pM=>?_) g4) (by size_fits)
 dsimp only at Y pM ⊢
 refine aj λf=>?_
 obtain⟨wf,keys,nd,⟨oL,m,lo,lc,P,hn,hl,hc,L⟩,N⟩:=s1
 refine f ?_
 subst P
 have z:=a5.alloc dv {cls:=.type "list",dict:=none,data:=.seq ([]:List an).toArray} rfl
 have B:=a5.alloc z {cls:=.type "dict",data:=.dict #[]} rfl
 refine aj λf=>?_
 obtain⟨j,F,vC⟩:=jO.of Y
 refine f ?_
 have U:a5 G h3 H2 (((h2.push {cls:=.type "list",dict:=none,data:=.seq ([]:List an).toArray}).objs.size,j)::(h2.objs.size,{cls:=.type "list",dict:=none,data:=.seq ([]:List an).toArray})::((li++((Γ.env.locals,oL)::(lo++lc)))++fl)):=
  a5.write B (λb ob hb e=>(pM.2 b hb).trans e) F
 generalize hD:h2.objs.size=D at U ⊢
 generalize hC:(h2.push {cls:=.type "list",dict:=none,data:=.seq ([]:List an).toArray}).objs.size=C at U Y ⊢
 let Γ':Fm:=⟨compEnvC scope (mq Γ.env scope.names []) C Γ.env,Γ.ca,[]⟩
 have K9:Γ'.env.scope.names=ff Γ.env.scope.names scope.names:=Uh wf.kind
 have lK: ∀x,Γ'.env.kindOf x=(scope.names.lookup x).map λk=>if(k== .free&&dz (Γ.env.scope.names.lookup x) .cell)then wh else k:=λx=>by
  unfold zt;simp only[K9,Pa]
 have w:Fm.Wf Γ':=⟨g4,wf.glob,wf.blt,λx c e i=>by
  have hx:(x,lV)∈scope.names:=by
   rw[lK x]at i
   cases e2:scope.names.lookup x with
   |none=>simp only[e2]at i;simp at i
   |some k=>
    have hm:=mem_of_lookup e2
    have W:=g3 _ hm
    simp only[e2]at i
    have i:(if(k== .free&&dz (Γ.env.scope.names.lookup x) .cell)then wh else k)= .cell\/(if(k== .free&&dz (Γ.env.scope.names.lookup x) .cell)then wh else k)= .free:=i.imp (λq=>tJ q) λq=>tJ q
    by_cases hf:k= .free
    ·rw[hf]at hm;exact hm
    ·have hb:(k==lV)=false:=by simpa using hf
     rw[hb]at i
     simp only[Bool.false_and,zn,if_false]at i
     rcases i with q|q
     ·dsimp only at W;rw[q]at W;cases W
     ·exact absurd q hf
  obtain⟨c',e1,e2⟩:=K6 x hx
  rw[e]at e2;cases e2
  show(mq Γ.env scope.names []).lookup x=some c
  rw[BX K7 (.inl hx) (by intro y v;simp at v),e1],wf.nd⟩
 have yH: ∀x∈fh scope.names,Γ'.env.kindOf x=some .local:=λx hx=>by
  obtain⟨⟨y,k⟩,hm,rfl⟩:=bF.mp hx
  obtain⟨hm,hk⟩:=ke.mp hm
  simp only[beq_iff_eq]at hk
  subst hk
  rw[lK,K8 _ hm rfl];rfl
 have DX:bd Γ' ⟨mB scope,S1.c⟩ H2 ((C,j)::lc):=by
  refine⟨w,λp hp=>?_,?_,⟨j,_,[],lc,rfl,vC,?_,hc,λp hp=>nomatch hp⟩,λp hp=>nomatch hp⟩
  ·obtain⟨x,hx,rfl⟩:=bF.mp hp
   refine⟨yH x hx,?_⟩
   refine aj λf=>?_
   obtain⟨⟨y,k⟩,hm,rfl⟩:=bF.mp hx
   refine f ?_
   exact g2 _ (ke.mp hm).1
  ·show((mB scope).map ai).Nodup
   unfold mB
   rw[jy,show(ai ∘ λx=>(x,Slot.any))=id from rfl,zj]
   exact(zr.map ai).nodup g1
  ·show LR H2 _ (mB scope) []
   unfold mB
   generalize fh scope.names=xs
   induction xs with
   |nil=>rfl
   |cons x xs ih=>exact⟨[],[],rfl,rfl,ih⟩
 have pm:((C,j)::(D,({cls:=.type "list",dict:=none,data:=.seq ([]:List an).toArray}:bn))::((li++((Γ.env.locals,oL)::(lo++lc)))++fl)).Perm
   (((D,({cls:=.type "list",dict:=none,data:=.seq ([]:List an).toArray}:bn))::(li++((C,j)::lc)))++((Γ.env.locals,oL)::lo++fl)):=by
  refine(zb _ _ _).trans ?_
  simp only[mQ,dR]
  refine gM _ ?_
  refine oj ?_ e8.symm
  refine gM _ (rf _ ?_)
  refine oj ?_ e8.symm
  exact gM _ (q8 lo lc fl)
 refine KI (Γ':=Γ') (g:=⟨tgt,iter,ifs,0⟩) rfl rfl (λit=>he it D Γ'.env) iY (vB Γ' D K9) ok (λh' aU H' l' dE dO ap=>?_) (U.perm pm) (cj.mk [] 0) aF.nil iX DX j0
 obtain⟨oD,vs,acc,X,gK,el,D1,nU,hx,hj⟩:=ap
 subst el
 obtain⟨_,_,_,⟨t,m',r,o,ex,I,K2,O,_⟩,_⟩:=hx
 subst ex
 refine D5 D C h' aU H' acc oD vs t m' ((Γ.env.locals,oL)::(lo++o)) ⟨S1.l,X.c⟩ ((iB.trans aV).trans dE) ?_ I D1 nU (Z acc X hj).1 ⟨wf,keys,nd,⟨oL,m,lo,o,rfl,hn,hl.mono dE,O,L⟩,N⟩ (Z acc X hj).2
 refine a5.drop (l:=r) (dO.perm ?_)
 have q1:(((D,oD)::((C,t)::(r++o)))++((Γ.env.locals,oL)::lo++fl)).Perm ((C,t)::(D,oD)::(r++(o++((Γ.env.locals,oL)::(lo++fl))))):=by
  simp only[mQ,dR]
  exact zb _ _ _
 refine q1.trans ?_
 have q2:(r++((C,t)::(D,oD)::((Γ.env.locals,oL)::(lo++o)++fl))).Perm ((C,t)::(D,oD)::(r++((Γ.env.locals,oL)::(lo++o)++fl))):=
  e8.trans (gM _ e8)
 refine oj ?_ q2.symm
 refine gM _ (gM _ (rf _ ?_))
 simp only[mQ,dR]
 refine e8.trans (gM _ (q8 o lo fl))
theorem b5.compG{tgt elt iter:Expr}{ifs:List Expr}{rest:List pU}{body:aw->c6->bX PUnit}{scope:b9}{pos:ax}{Q:aw->List T->St->Prop}(r:dX iter=true)(hg:iw Γ.env.scope.names (S.c.map ai) scope=true)
  (he: ∀it D env,ox (.ListComp elt (⟨tgt,iter,ifs,0⟩::rest) scope pos) 0 it (.ref D) env=nw tgt ifs iter.pos (body D env) (.compLoop (.ListComp elt (⟨tgt,iter,ifs,0⟩::rest) scope pos) 0 it (.ref D) env) it env)
  (h:vf G d Γ S tgt iter ifs body scope λts S'=>∀a,Q a ts S'):b5 G d Γ S (.ListComp elt (⟨tgt,iter,ifs,0⟩::rest) scope pos) Q:=by
 intro H led hs A s hp tk fl ok sp
 refine Gy (use:=none) r hg he h hs ok sp λD C h' aU H' acc oD vs k m bV S' le f n hD o hz u hq=>?_
 refine⟨m,n.ns (f.own (C,k) (.head _)).1,λi j=>?_⟩
 have t:a5 G i H' ((D,oD)::(bV++fl)):=by
  have hn:=(f.own (C,k) (.head _)).2
  have l:=(dQ.mp f.nd)
  refine⟨f.base,λb ob e=>(j.2 b λq=>by subst q;dsimp only at hn;rw[hn]at e;cases e).trans (f.frz b ob e),λp g=>?_,l.2⟩
  have v:p.1≠C:=λe=>l.1 (bF.mpr ⟨p,g,e⟩)
  exact⟨(j.2 _ v).trans (f.own p (.tail _ g)).1,(f.own p (.tail _ g)).2⟩
 exact⟨i,aU,H',(D,oD)::bV,rfl,le,t,D,vs,oD,acc,S',bV,rfl,o,hD,hz,rfl,u,hq D⟩
theorem Ex.assignCompG{x:ag}{p t:ax}{tgt elt iter:Expr}{ifs:List Expr}{rest:List pU}{body:aw->c6->bX PUnit}{scope:b9}{pos:ax}{Q:cC->St->Prop}
  (I:we (.ListComp elt (⟨tgt,iter,ifs,0⟩::rest) scope pos) (some (.Name x p)) t.line Γ.env=aH true)
  (J:dX iter=true) (hg:iw Γ.env.scope.names (S.c.map ai) scope=true)
  (he: ∀it D env,ox (.ListComp elt (⟨tgt,iter,ifs,0⟩::rest) scope pos) 0 it (.ref D) env=nw tgt ifs iter.pos (body D env) (.compLoop (.ListComp elt (⟨tgt,iter,ifs,0⟩::rest) scope pos) 0 it (.ref D) env) it env)
  (h:vf G d Γ S tgt iter ifs body scope λts S'=>∀a,∃S2,ee Γ S' x (.ow a ts) S2/\Q .next S2):Ex G d Γ S (.Assign [.Name x p] (.ListComp elt (⟨tgt,iter,ifs,0⟩::rest) scope pos) t) Q:=by
 intro H led hs A s hp tk fl ok sp
 simp only[exec_Assign_Name_used _ _ _ _ I]
 refine bN (vZ (bN ?_))
 refine bN (eg (Gy (use:=some (kW (Expr.Name x p) Γ.env)) (Q':=λg s'=>RP G s fl H (λH' l=>∃S',bd Γ S' H' l/\Q .next S') s') J hg he h hs ok sp
  λD C h' aU H' acc oD vs i m bV S' le k B hD E hz j hq=>?_) (λg s' y=>by obtain⟨h',aU,H',l,e,le,k,S',j,q⟩:=y;exact(dq (dq ⟨h',aU,H',l,e,le,k,.next,S',rfl,j,q⟩))) λg g e=>e)
 obtain⟨S2,z,q⟩:=hq D
 have pm:((C,i)::(D,oD)::(bV++fl)).Perm (([(D,oD)]++bV)++((C,i)::fl)):=by
  simp only[mQ,L8]
  exact(zb _ _ _).trans (gM _ e8.symm)
 refine ae.to (Q:=λg H2 l=>bd Γ S2 H2 l) (ae.bind (ae.standAt (ae.bindName ((ae.store (r:=.ow D acc) j z ⟨vs,oD,rfl,E,hD,hz,rfl⟩).mono λg H2 l w ⟨e,s2⟩=>by subst e;exact s2)))) ok (k.perm pm) λg h2 M H2 l2 w L s2=>?_
 have f:=L.perm (l':=(C,i)::(l2++fl)) e8
 refine⟨m,B.ns (f.own (C,i) (.head _)).1,λo u=>?_⟩
 have F:a5 G o H2 (l2++fl):=by
  have hn:=(f.own (C,i) (.head _)).2
  have v:=(dQ.mp f.nd)
  refine⟨f.base,λb ob e=>(u.2 b λq=>by subst q;dsimp only at hn;rw[hn]at e;cases e).trans (f.frz b ob e),λp n=>?_,v.2⟩
  have N:p.1≠C:=λe=>v.1 (bF.mpr ⟨p,n,e⟩)
  exact⟨(u.2 _ N).trans (f.own p (.tail _ n)).1,(f.own p (.tail _ n)).2⟩
 exact⟨o,M,H2,l2,rfl,le.trans w,F,S2,s2,q⟩
theorem b5.comp{tgt elt iter:Expr}{ifs:List Expr}{scope:b9}{pos:ax}{Q:aw->List T->St->Prop}(b:dX iter=true)(hg:iw Γ.env.scope.names (S.c.map ai) scope=true)
 (h:nF G d Γ S tgt elt iter ifs scope λts S'=>∀a,Q a ts S'):b5 G d Γ S (.ListComp elt [⟨tgt,iter,ifs,0⟩] scope pos) Q:=b5.compG b hg (λit D env=>I2 elt tgt iter ifs scope pos it D env) h.g
theorem Ex.assignComp{x:ag}{p b:ax}{tgt elt iter:Expr}{ifs:List Expr}{scope:b9}{pos:ax}{Q:cC->St->Prop}
 (e:we (.ListComp elt [⟨tgt,iter,ifs,0⟩] scope pos) (some (.Name x p)) b.line Γ.env=aH true)
 (f:dX iter=true) (hg:iw Γ.env.scope.names (S.c.map ai) scope=true)
 (h:nF G d Γ S tgt elt iter ifs scope λts S'=>∀a,∃S2,ee Γ S' x (.ow a ts) S2/\Q .next S2):Ex G d Γ S (.Assign [.Name x p] (.ListComp elt [⟨tgt,iter,ifs,0⟩] scope pos) b) Q:=Ex.assignCompG e f hg (λit D env=>I2 elt tgt iter ifs scope pos it D env) h.g
theorem Ex.assignComp2{x:ag}{p b:ax}{t1 i1 t2 i2 elt:Expr}{scope:b9}{pos:ax}{Q:cC->St->Prop}
 (e:we (.ListComp elt [⟨t1,i1,[],0⟩,⟨t2,i2,[],0⟩] scope pos) (some (.Name x p)) b.line Γ.env=aH true)
 (f:dX i1=true) (i:dX i2=true) (hg:iw Γ.env.scope.names (S.c.map ai) scope=true)
 (h:rY G d Γ S t1 i1 t2 i2 elt scope λts S'=>∀a,∃S2,ee Γ S' x (.ow a ts) S2/\Q .next S2):Ex G d Γ S (.Assign [.Name x p] (.ListComp elt [⟨t1,i1,[],0⟩,⟨t2,i2,[],0⟩] scope pos) b) Q:=Ex.assignCompG e f hg (λit D env=>Ji elt t1 i1 t2 i2 scope pos it D env) (h.g i)
theorem b5.comp2{t1 i1 t2 i2 elt:Expr}{scope:b9}{pos:ax}{Q:aw->List T->St->Prop}(b:dX i1=true)(e:dX i2=true)(hg:iw Γ.env.scope.names (S.c.map ai) scope=true)
 (h:rY G d Γ S t1 i1 t2 i2 elt scope λts S'=>∀a,Q a ts S'):b5 G d Γ S (.ListComp elt [⟨t1,i1,[],0⟩,⟨t2,i2,[],0⟩] scope pos) Q:=b5.compG b hg (λit D env=>Ji elt t1 i1 t2 i2 scope pos it D env) (h.g e)
end
section
variable {G:aK} {d:Nat} {Γ:Fm} {S:St}
noncomputable def nt:List T->Option (List Int)
 | []=>some []
 | .int i::r=>(nt r).map (i:: ·)
 |_::_=>none
theorem uV: ∀{ts:List T} {ns:List Int},nt ts=some ns->ts=ns.map T.int
 | [],ns,h=>by cases h;rfl
 |t::r,ns,h=>by
  cases t with
  |int i=>
   simp only[nt,lX]at h
   obtain⟨ms,h,rfl⟩:=h
   rw[uV h];rfl
  |_=>cases h
theorem aF.ints{H:PM}: ∀{ns:List Int} {vs:List an},aF H (ns.map T.int) vs->jc vs ns
 | [],_,h=>by simp only[List.map_nil,aF]at h;subst h;exact .nil
 |n::ns,_,h=>by
  simp only[gr,aF]at h
  obtain⟨v,bA,rfl,rv,rs⟩:=h
  obtain⟨t,rfl⟩:=rv.int
  exact .cons n t (aF.ints rs)
theorem un{vs:List an}{ns:List Int}(h:jc vs ns): ∀{i:Nat} {v:an},vs[i]? =some v->∃t,v= .int (ns[i]?.getD 0) t:=by
 induction h with
 |nil=>intro i v e;simp at e
 |cons n t _ a=>
  intro i v e
  induction i with
  |zero=>simp at e;exact⟨t,by simp[← e]⟩
  |succ i=>simp only[List.getElem?_cons_succ]at e ⊢;exact a e
theorem HS{ns ms:List Int}(h:ns.length=ms.length):(kR ns.length).all (λj=>ns[j]?.getD 0==ms[j]?.getD 0)=(ns==ms):=by
 rw[E7]
 simp only[zq,rh,beq_iff_eq]
 refine⟨λk=>List.ext_getElem h λi h1 h2=>?_,λe=>by subst e;intros;rfl⟩
 have :=k i h1
 simpa [h1,h2]using this
theorem VR.list{H:PM}{ts:List T}{v:an}(h:VR H (.list ts) v): ∃a vs o,v= .ref a/\H a=some o/\cj o vs/\ts.length<=bO/\aF H ts vs:=h
theorem cK.eqL{ts us:List T}{ns ms:List Int}(h1:nt ts=some ns)(h2:nt us=some ms):cK G .Eq (.list ts) (.list us) (ns==ms):=λd H v w g hw=>by
 refine aj λh=>?_
 obtain⟨a,vs,o,rfl,ha,ho,hz,rs⟩:=g.list
 obtain⟨b,ws,o2,rfl,hb,c,cr,dw⟩:=hw.list
 refine h ?_
 have :=uV h1;subst this
 have :=uV h2;subst this
 have i1:=rs.ints
 have i2:=dw.ints
 have l1:=rs.length
 have l2:=dw.length
 simp only[bi]at l1 l2
 refine cA.read λA s ok hp tk hf z_=>?_
 have f:A.units<cLine:=by have :=ok.2.2;lia
 by_cases hl:ns.length=ms.length
 ·refine SeqAt.eq_listAt (ho.isList (hf _ _ ha)) (c.isList (hf _ _ hb)) (by simp;lia) f (e:=λj=>ns[j]?.getD 0==ms[j]?.getD 0) (λj q1 q2=>?_) ⟨⟨_,rfl⟩,?_⟩
  ·obtain⟨t,e1⟩:=un i1 (i:=j) (v:=vs.toArray[j]) (by simp at q1 ⊢)
   obtain⟨u,e2⟩:=un i2 (i:=j) (v:=ws.toArray[j]) (by simp at q2 ⊢)
   simp only[e1,e2]
   exact E8 _ _ _ _
  ·have :vs.toArray.size=ns.length:=by simp[l1]
   simp only[this,HS hl];exact VR.ofBool
 ·refine SeqAt.eq_list_lengthsAt (ho.isList (hf _ _ ha)) (c.isList (hf _ _ hb)) (by simp;lia) f ⟨⟨_,rfl⟩,?_⟩
  rw[show(ns==ms)=false from by rw[beq_eq_false_iff_ne,ne_eq];intro e;exact hl (by simp only[e])]
  exact VR.ofBool
theorem cK.neL{ts us:List T}{ns ms:List Int}(h1:nt ts=some ns)(h2:nt us=some ms):cK G .NotEq (.list ts) (.list us) (ns !=ms):=λd H v w l hw=>by
 refine aj λf=>?_
 obtain⟨a,vs,o,rfl,ha,ho,hz,rs⟩:=l.list
 obtain⟨b,ws,o2,rfl,hb,k,cr,dw⟩:=hw.list
 refine f ?_
 have :=uV h1;subst this
 have :=uV h2;subst this
 have i1:=rs.ints
 have i2:=dw.ints
 have l1:=rs.length
 have l2:=dw.length
 simp only[bi]at l1 l2
 refine cA.read λA s ok hp tk hf z_=>?_
 have h:A.units<cLine:=by have :=ok.2.2;lia
 refine aj λf=>?_
 obtain⟨n,rfl⟩:=ho
 obtain⟨g,rfl⟩:=k
 refine f ?_
 by_cases hl:ns.length=ms.length
 ·have c:(!(kR vs.toArray.size).all λj=>ns[j]?.getD 0==ms[j]?.getD 0)=(ns !=ms):=by
   have :vs.toArray.size=ns.length:=by simp[l1]
   rw[this,HS hl];rfl
  refine zv (op:=.NotEq) ⟨_,hf _ _ ha,rfl⟩ ⟨_,hf _ _ hb,rfl⟩ E9 Fa (Fb _ _) (SeqAt.list_neAt a b vs.toArray ws.toArray n g none none #[] #[] (by simp;lia) (λj=>ns[j]?.getD 0==ms[j]?.getD 0))
   ⟨hf _ _ ha,hf _ _ hb,λj q1 q2=>?_,(λx=>nomatch x),⟨_,rfl⟩,?_⟩ h
  ·obtain⟨t,e1⟩:=un i1 (i:=j) (v:=vs.toArray[j]) (by simp at q1 ⊢)
   obtain⟨u,e2⟩:=un i2 (i:=j) (v:=ws.toArray[j]) (by simp at q2 ⊢)
   simp only[e1,e2]
   exact E8 _ _ _ _
  ·simp only[c];exact VR.ofBool
 ·refine zv (op:=.NotEq) ⟨_,hf _ _ ha,rfl⟩ ⟨_,hf _ _ hb,rfl⟩ E9 Fa (Fb _ _) (Xw a b vs.toArray ws.toArray n g none none #[] #[] (by simp;lia))
   ⟨hf _ _ ha,hf _ _ hb,(λx=>nomatch x),⟨_,rfl⟩,?_⟩ h
  rw[show(ns !=ms)=true from by rw[bne_iff_ne,ne_eq];intro e;exact hl (by simp only[e])]
  exact VR.ofBool
theorem VR.str{H:PM}{x:ag}{v:an}(h:VR H (.str x) v): ∃t,v= .str x t:=h
def pi(G:aK)(op:eJ)(a b:T)(ts:List T):Prop:=∀d H v w,VR H a v->VR H b w->nC G d H (binaryOp op v w) ts
theorem b5.bin{l r:Expr}{op:eJ}{pos:ax}{Q:aw->List T->St->Prop}
  (h:Ev G d Γ S l λa S1=>Ev G d Γ S1 r λb S2=>∃ts,pi G op a b ts/\∀p,Q p ts S2):b5 G d Γ S (.BinOp l op r pos) Q:=by
 intro H led hs
 refine ae.bind ((h H led hs).mono λv H' l' le c=>?_)
 obtain⟨a,S1,f,s1,q⟩:=c
 refine ae.bind (ae.holding ((q H' l' s1).mono λw H2 l2 j c=>?_))
 refine aj λi=>?_
 obtain⟨b,S2,e,s2,ts,hb,q2⟩:=c
 refine i ?_
 refine ae.bind (ae.standAt (ae.operate ?_))
 exact(hb d H2 v w (f.mono j) e).run λa vs o H3 g rv hl hz=>⟨a,vs,o,ts,S2,l2,rfl,rv,hl,hz,rfl,s2.mono g,q2 a⟩
theorem aF.flat{H:PM}{ts:List T}{vs:List an}(h:aF H ts vs): ∀(n:Nat),aF H (gP n ts).flatten (gP n vs).flatten
 |0=>aF.nil
 |n+1=>by simp only[Fc,Fc,zw,zw];exact h.append (aF.flat h n)
theorem pi.mul{ts:List T}{x:Int}(h0: -(2^63:Int)<=x)(h1:x<2^63)(h2:ts.length*x.toNat<=2^24):pi G .Mult (.list ts) (.int x) (gP x.toNat ts).flatten:=λd H v w f hw=>by
 refine aj λg=>?_
 obtain⟨a,vs,o,rfl,ha,ho,hz,rs⟩:=f.list
 obtain⟨u,rfl⟩:=hw.int
 have l1:=rs.length
 obtain⟨n,rfl⟩:=ho
 refine g ?_
 refine nC.grow λA s ok hp c hf z_=>?_
 have hl:=hf _ _ ha
 refine wpAny_binaryOp_repeat_ref (T:="list") (U:="int") (by decide) ⟨_,hl,rfl⟩ (λs'=>typeIs_int s' x u) noFill_list_mul F.fills_int_mul F.slot_int_rmul repeat_list F.slot_int_index.lookup
  (Fe F.slot_int_rmul (typeIs_int _ x u) F.entry_int_rmul (F.args_int_rmul_2 _ _) (lm_int_rmul_list_any x u a vs.toArray n none #[])
   ⟨hl,rfl,⟨_,hl,rfl⟩,Fe F.slot_list_mul ⟨_,hl,rfl⟩ F.entry_list_mul (F.args_list_mul_2 _ _)
    (lm_list_mul_any a vs.toArray n none #[] x u (by simp[Ml];trivial) (by simp only[j9,l1];trivial) (by simp[Builtin.List.listTooLong,bO,l1];trivial))
    ⟨hl,?_⟩⟩)
 refine⟨_,c,_,(gP x.toNat vs).flatten,_,λb ob e=>jZ _ e,rfl,rfl,qJ,tC _ rfl,⟨0,?_⟩,?_,rs.flat _⟩
 ·rw[listMul_foldl_if]
 ·simp only[List.length_flatten,List.map_replicate,List.sum_replicate_nat]
  rw[eA,Nat.mul_comm];trivial
theorem pi.add{ts us:List T}(h:ts.length+us.length<=2^24):pi G .Add (.list ts) (.list us) (ts++us):=λd H v w i hw=>by
 refine aj λc=>?_
 obtain⟨a,vs,o,rfl,ha,ho,hz,rs⟩:=i.list
 obtain⟨b,ws,o2,rfl,hb,g,cr,dw⟩:=hw.list
 refine c ?_
 have l1:=rs.length
 have l2:=dw.length
 refine nC.grow λA s ok hp f hf z_=>?_
 refine aj λc=>?_
 obtain⟨n,hn⟩:=ho.isL (hf _ _ ha)
 obtain⟨n2,j⟩:=g.isL (hf _ _ hb)
 refine c ?_
 refine P.add_list hn j ⟨_,f,_,vs++ws,_,λb ob e=>jZ _ e,rfl,rfl,qJ,tC _ rfl,⟨0,by simp⟩,by simp[eA];trivial,rs.append dw⟩ (by simp[eA,l1,l2];trivial)
theorem aF.take{H:PM}{ts:List T}{vs:List an}(h:aF H ts vs)(n:Nat):aF H (ts.take n) (vs.take n):=by
 have hl:=h.length
 refine aj λa=>?_
 obtain⟨v1,v2,e,h1,h2⟩:=aF.split (ts:=ts.take n) (ts':=ts.drop n) (vs:=vs) (by rw[iJ];exact h)
 refine a ?_
 have c:=h1.length
 have :vs.take n=v1:=by
  rw[e]
  simp only[kX]at c
  by_cases hn:n<=ts.length
  ·rw[List.take_append_of_le_length (by lia),e9 (by lia)]
  ·have b:=h2.length
   simp only[wi]at b
   have :v2=[]:=Xx.mp (by lia)
   subst this
   rw[ou,e9 (by lia)]
 simp only[this];exact h1
theorem aF.drop{H:PM}{ts:List T}{vs:List an}(h:aF H ts vs)(n:Nat):aF H (ts.drop n) (vs.drop n):=by
 have hl:=h.length
 obtain⟨v1,v2,e,h1,h2⟩:=aF.split (ts:=ts.take n) (ts':=ts.drop n) (vs:=vs) (by rw[iJ];exact h)
 have b:=h1.length
 have a:=h2.length
 simp only[kX,wi]at b a
 have :vs.drop n=v2:=by
  rw[e]
  by_cases hn:n<=ts.length
  ·rw[List.drop_append,Mm (by lia),show n-v1.length=0 by lia];rfl
  ·have :v2=[]:=Xx.mp (by lia)
   subst this
   rw[ou,Mm (by lia)]
 simp only[this];exact h2
noncomputable def xD(b a:an):bn:={cls:=.type "slice",dict:=none,data:=.fields #[b,a,.none]}
theorem ae.newSlice{H:PM}{led:av}{b a:an}{Q:an->PM->av->Prop}(h: ∀sl,Q (.ref sl) H ((sl,xD b a)::led)):ae G d H led (newFields "slice" [b,a,.none]) Q:=by
 intro A s hp c fl ok sp
 refine tF (T:="slice") (dict:=none) ?_ (by first |trivial|size_fits)
 exact⟨_,c,H,(hp.objs.size,_)::led,rfl,.refl _,a5.alloc sp (xD b a) rfl,h _⟩
theorem ae.sliceTail{H:PM}{led:av}{value:Expr}{lower upper:Option Expr}{p:ax}{a sl:aw}{o:bn}{vs:List an}{ts us:List T}{c b:an}{lo hi:Option Int}{Q:an->PM->av->Prop}(ha:H a=some o)(ho:cj o vs)(rs:aF H ts vs)(hz:ts.length<=bO)
  (i:IsPart c lo) (pu:IsPart b hi) (e: ∃ws,slicePick vs.toArray lo hi none=ws.toArray/\aF H us ws)
  (h: ∀D ws oD,aF H us ws->cj oD ws->Q (.ref D) H ((D,oD)::led)):
  ae G d H ((sl,xD c b)::led) (zh value (.Slice lower upper none p) (.ref a) (.ref sl)) Q:=by
 have hlen:=rs.length
 refine ae.tail (TT:="list") (ops:=[.ref sl,.ref a]) L9.lookup rfl (λs z_ hf=>(ho.isList (hf _ _ ha)).typeIs) ?_
 intro A s h2 m DS pK f
 refine aj λn=>?_
 obtain⟨ws,j,g⟩:=e
 refine n ?_
 refine wpAny_getItem_list_slice (sl:=sl) (ho.isList (f.frz _ _ ha)) ⟨_,(f.own (sl,_) (.head _)).1,rfl,rfl⟩ i pu .none (by decide) ?_ (by simp[hlen];exact hz)
 rw[j]
 have k:=a5.alloc f {cls:=.type "list",data:=.seq ws.toArray} rfl
 refine⟨_,m,H,(h2.objs.size,_)::led,rfl,.refl _,a5.drop (l:=[(sl,xD c b)]) (k.perm (zb _ _ _)),h _ ws _ g (cj.mk ws 0)⟩
theorem b5.sliceFrom{value e:Expr}{p pos:ax}{Q:aw->List T->St->Prop}
  (h:Ev G d Γ S value λb S1=>Ev G d Γ S1 e λi S2=>∃ts n,b= .list ts/\i= .int (Int.ofNat n)/\∀a,Q a (ts.drop n) S2):b5 G d Γ S (.Subscript value (.Slice (some e) none none p) pos) Q:=by
 intro H led hs
 refine ae.bind ((h H led hs).mono λv H' l le c=>?_)
 obtain⟨b,S1,k,s1,q⟩:=c
 show ae G d H' l (do
  let i ← j5 [v] (do let w ← eval e Γ.env;let u ← j5 [w] (aH zx);let s ← j5 [w,u] (aH zx);newFields "slice" [w,u,s])
  mO pos
  zh value (.Slice (some e) none none p) v i) _
 refine ae.bind (ae.holding (ae.bind ((q H' l s1).mono λw H2 l2 t c=>?_)))
 refine aj λf=>?_
 obtain⟨i,S2,j,s2,ts,n,r,m,q2⟩:=c
 refine f ?_
 subst r m
 refine aj λf=>?_
 obtain⟨u,rfl⟩:=j.int
 obtain⟨a,vs,o,rfl,ha,ho,hz,rs⟩:=(k.mono t).list
 refine f ?_
 refine ae.bind (ae.holding (ae.pure (ae.bind (ae.holding (ae.pure (ae.newSlice λsl=>ae.bind (ae.standAt ?_)))))))
 refine ae.sliceTail ha ho rs hz (.int _ _) .none ⟨vs.drop n,slicePick_from' _ _,rs.drop n⟩ λD ws oD g hD=>?_
 exact⟨D,ws,oD,ts.drop n,S2,l2,rfl,g,hD,by rw[wi];lia,rfl,s2,q2 D⟩
theorem b5.sliceUpto{value e:Expr}{p pos:ax}{Q:aw->List T->St->Prop}
  (h:Ev G d Γ S value λb S1=>Ev G d Γ S1 e λi S2=>∃ts n,b= .list ts/\i= .int (Int.ofNat n)/\∀a,Q a (ts.take n) S2):b5 G d Γ S (.Subscript value (.Slice none (some e) none p) pos) Q:=by
 intro H led hs
 refine ae.bind ((h H led hs).mono λv H' l le c=>?_)
 obtain⟨b,S1,k,s1,q⟩:=c
 show ae G d H' l (do
  let i ← j5 [v] (do let w ← aH zx;let u ← j5 [w] (eval e Γ.env);let s ← j5 [w,u] (aH zx);newFields "slice" [w,u,s])
  mO pos
  zh value (.Slice none (some e) none p) v i) _
 refine ae.bind (ae.holding (ae.bind (ae.pure (ae.bind (ae.holding ((q H' l s1).mono λw H2 l2 t c=>?_))))))
 refine aj λf=>?_
 obtain⟨i,S2,j,s2,ts,n,r,m,q2⟩:=c
 refine f ?_
 subst r m
 refine aj λf=>?_
 obtain⟨u,rfl⟩:=j.int
 obtain⟨a,vs,o,rfl,ha,ho,hz,rs⟩:=(k.mono t).list
 refine f ?_
 refine ae.bind (ae.holding (ae.pure (ae.newSlice λsl=>ae.bind (ae.standAt ?_))))
 refine ae.sliceTail ha ho rs hz .none (.int _ _) ⟨vs.take n,slicePick_upto' _ _,rs.take n⟩ λD ws oD g hD=>?_
 exact⟨D,ws,oD,ts.take n,S2,l2,rfl,g,hD,by rw[kX];lia,rfl,s2,q2 D⟩
theorem SU{vs:List an}{ns:List Int}(h:jc vs ns): ∃xs:List (Int×Tok),vs=xs.map (λp=>.int p.1 p.2)/\xs.map ai=ns:=by
 induction h with
 |nil=>exact⟨[],rfl,rfl⟩
 |cons n t _ a=>obtain⟨xs,e1,e2⟩:=a;exact⟨(n,t)::xs,by rw[e1];rfl,by rw[← e2];rfl⟩
theorem cY.maxL{ns:List Int}{M:Int}(b:M∈ns)(hle: ∀a∈ns,a<=M):cY G d (.builtin "max") [.list (ns.map .int)] (.int M):=λH vs rs=>by
 obtain⟨v,bA,rfl,rv,rfl⟩:=rs
 obtain⟨a,vs,o,rfl,ha,ho,hz,rs⟩:=rv.list
 obtain⟨xs,e1,e2⟩:=SU rs.ints
 refine cA.grow λA s ok hp tk hf z_=>?_
 have hx:vs.toArray=intItems xs.toArray:=by rw[e1];simp[intItems]
 have f:0<xs.toArray.size:=by
  induction xs with
  |nil=>rw[← e2]at b;cases b
  |cons _ _=>simp
 have hl:=ho.isList (hf _ _ ha)
 simp only[hx]at hl
 refine max_intList ok.1 hl f λv h' aU h hk=>⟨⟨h',aU,hk,rfl⟩,?_⟩
 obtain⟨t,rfl⟩:=intItems_at h
 obtain⟨h1,h2⟩:=argBest_gt (numAt xs.toArray) (xs.toArray.size-1)
 generalize argBest (λi j=>decide (numAt xs.toArray i>numAt xs.toArray j)) (xs.toArray.size-1)=k at *
 have g: ∀i (hi:i<xs.length),numAt xs.toArray i=xs[i].1:=λi hi=>by simp[numAt,hi]
 have c:k<xs.length:=by simp at h1 f;omega
 have e:numAt xs.toArray k=M:=by
  refine zy ?_ ?_
  ·refine hle _ ?_
   simp only[← e2,g k c];exact j6 (Ff c)
  ·rw[← e2]at b
   obtain⟨p,hp,rfl⟩:=bF.mp b
   obtain⟨i,hi,rfl⟩:=Xy.mp hp
   rw[← g i hi]
   exact h2 i (by simp;lia)
 rw[e];exact VR.ofInt
end
section
variable {G:aK} {d:Nat} {Γ:Fm} {S:St}
theorem LR.startB{H:PM}{p0:ag}{ps:List ag}{bs ts:List T}{b:aw}{bv:List an}{ob:bn}{vs:List an}(rs:aF H ts vs)(hb:aF H bs bv)(lo:cj ob bv)(hz:bs.length<=bO){m:ag->Option an}(h0:m p0=some (.ref b)):
  ∀(xs:List ag),xs.Nodup->p0∈xs->(∀x∈xs,x≠p0->∀v,(ps.zip vs).lookup x=some v->m x=some v)->LR H m (xs.map λx=>(x,if x=p0 then Slot.own b bs else eE (ps.zip ts) x)) [(b,ob)]
 |x::xs,hn,hp,h=>by
  have c:=dQ.mp hn
  by_cases hx:x=p0
  ·subst hx
   refine⟨[(b,ob)],[],rfl,?_,?_⟩
   ·show gf H (if x=x then Slot.own b bs else eE (ps.zip ts) x) (m x) _
    rw[if_pos rfl]
    exact⟨bv,ob,h0,hb,lo,hz,rfl⟩
   ·have e:(xs.map λy=>(y,if y=x then Slot.own b bs else eE (ps.zip ts) y))=xs.map λy=>(y,eE (ps.zip ts) y):=tN λy a=>by
     have :y≠x:=λe=>c.1 (e▸a)
     rw[if_neg this]
    show LR H m (xs.map λy=>(y,if y=x then Slot.own b bs else eE (ps.zip ts) y)) []
    rw[e]
    exact LR.start rs xs λy a v ev=>h y (.tail _ a) (λe=>c.1 (e▸a)) v ev
  ·refine⟨[],[(b,ob)],rfl,?_,LR.startB rs hb lo hz h0 xs c.2 (by rcases bz.mp hp with e|e;exact absurd e.symm hx;exact e) λy a=>h y (.tail _ a)⟩
   show gf H (if x=p0 then Slot.own b bs else eE (ps.zip ts) x) (m x) _
   rw[if_neg hx]
   unfold eE
   cases e:(ps.zip ts).lookup x with
   |none=>rfl
   |some t=>
    obtain⟨v,ev,rv⟩:=w5 rs e
    exact⟨⟨v,h x (.head _) hx v ev,rv⟩,rfl⟩
theorem CR.startB{H:PM}{p0:ag}{ps:List ag}{bs ts:List T}{b:aw}{bv:List an}{ob:bn}{vs:List an}{hp:bo}(rs:aF H ts vs)(hb:aF H bs bv)(lo:cj ob bv)(hz:bs.length<=bO){cm:ag->Option an}(h0:cm p0=some (.ref b)):
  ∀(cs:List (ag×aw)),(cs.map ai).Nodup->p0∈cs.map ai->(∀n c,(n,c)∈cs->hp.IsCell c (cm n))->(∀x c,(x,c)∈cs->x≠p0->∀v,(ps.zip vs).lookup x=some v->cm x=some v)->
  ∃lc a,CR H cs ((cs.map ai).map λx=>(x,if x=p0 then Slot.own b bs else eE (ps.zip ts) x)) a/\a.Perm (lc++[(b,ob)])/\lc.map ai=cs.map ak/\∀p∈lc,hp.get? p.1=some p.2
 |(x,c)::cs,hn,hm,h,h2=>by
  have g:=dQ.mp (show(x::cs.map ai).Nodup from hn)
  obtain⟨oc,ho,hd⟩:=h x c (.head _)
  by_cases hx:x=p0
  ·subst hx
   obtain⟨lc,hc,e,d⟩:=CR.start (ps:=ps) rs cs (λn c hm=>h n c (.tail _ hm)) λy c hm v ev=>h2 y c (.tail _ hm) (λe=>g.1 (e▸j6 (f:=ai) hm)) v ev
   have e2:((cs.map ai).map λy=>(y,if y=x then Slot.own b bs else eE (ps.zip ts) y))=(cs.map ai).map λy=>(y,eE (ps.zip ts) y):=tN λy j=>by
    have :y≠x:=λe=>g.1 (e▸j)
    rw[if_neg this]
   refine⟨(c,oc)::lc,(c,oc)::([(b,ob)]++lc),⟨rfl,oc,cm x,[(b,ob)],lc,hd,rfl,?_,by rw[e2];exact hc⟩,gM _ gO,by simp[e],λp hp=>?_⟩
   ·show gf H (if x=x then Slot.own b bs else eE (ps.zip ts) x) (cm x) _
    rw[if_pos rfl]
    exact⟨bv,ob,h0,hb,lo,hz,rfl⟩
   ·rcases bz.mp hp with rfl|hp
    ·exact ho
    ·exact d p hp
  ·obtain⟨lc,a,hc,i,e,d⟩:=CR.startB rs hb lo hz h0 cs g.2 (by rcases bz.mp (show p0∈x::cs.map ai from hm)with e|e;exact absurd e.symm hx;exact e) (λn c hm=>h n c (.tail _ hm)) λy c hm=>h2 y c (.tail _ hm)
   refine⟨(c,oc)::lc,(c,oc)::([]++a),⟨rfl,oc,cm x,[],a,hd,rfl,?_,hc⟩,gM _ i,by simp[e],λp hp=>?_⟩
   ·show gf H (if x=p0 then Slot.own b bs else eE (ps.zip ts) x) (cm x) _
    rw[if_neg hx]
    unfold eE
    cases e:(ps.zip ts).lookup x with
    |none=>rfl
    |some t=>
     obtain⟨v,ev,rv⟩:=w5 rs e
     exact⟨⟨v,h2 x c (.head _) hx v ev,rv⟩,rfl⟩
   ·rcases bz.mp hp with rfl|hp
    ·exact ho
    ·exact d p hp
noncomputable def ph(p0:ag)(b:aw)(bs:List T)(z:List (ag×T))(x:ag):ag×Slot:=(x,if x=p0 then Slot.own b bs else eE z x)
noncomputable def startB(nm:List (ag×d6))(p0:ag)(b:aw)(bs:List T)(z:List (ag×T)):St:=⟨(fh nm).map (ph p0 b bs z),(eU nm).map (ph p0 b bs z)⟩
theorem G9{p0:ag}{b:aw}{bs:List T}{z:List (ag×T)}{xs:List ag}(h:p0 ∉ xs):xs.map (ph p0 b bs z)=xs.map λx=>(x,eE z x):=tN λx hx=>by
 have e:x≠p0:=λe=>h (e▸hx)
 unfold ph;rw[if_neg e]
theorem sI.ofDef{df:kd}{p0:ag}{ps:List ag}{bs ts:List T}{Q:T->List T->Prop}(hm:df∈jW G.p)(W:oK df)(hg:nc df=true)(D:df.params.args.map (·.arg)=p0::ps)(hl:ts.length=ps.length)
   (U:(p0∈fh df.scope.names/\p0 ∉ eU df.scope.names)\/(p0 ∉ fh df.scope.names/\p0∈eU df.scope.names))
   (h: ∀(Γ:Fm) b,Γ.env.scope=df.scope->eH G d Γ (startB df.scope.names p0 b bs (ps.zip ts)) df.body λo S'=>∃t cx,(o= .ret t\/(o= .next/\t= .none))/\dp Γ S' p0 b cx/\Q t cx):sI G (d+1) df.name bs ts Q:=by
 have g:=hg
 simp only[nc,cO]at g
 have g3:=uB g.1.1.1.1.1.2
 have Ea:(eU df.scope.names).Nodup:=by
   unfold eU
   exact(E5 _).nodup_iff.mpr ((zr.map ai).nodup g3)
 refine aj λs=>?_
 obtain⟨a,o,pm,code,doc,ha,ho,mE,yF⟩:=G.top.fn df hm
 refine s ?_
 refine⟨a,ha,λH b bv ob vs hb lo hz rs=>?_⟩
 have hlen:=rs.length
 have I:df.params.args.length=ps.length+1:=by
   have :=congrArg aR D
   simpa using this
 have B: ∀x v,x≠p0->(ps.zip vs).lookup x=some v->((df.params.args.map (·.arg)).zip (.ref b::vs)).lookup x=some v:=λx v A ev=>by
   simp only[D,E2,j7]
   have :(x==p0)=false:=by simpa using A
   rw[this];exact ev
 have N:((df.params.args.map (·.arg)).zip (.ref b::vs)).lookup p0=some (.ref b):=by rw[D];simp
 have key: ∀l0 l1:av,l0++l1=[(b,ob)]->
     (∀m:ag->Option an,(∀x∈fh df.scope.names,∀v,((df.params.args.map (·.arg)).zip (.ref b::vs)).lookup x=some v->m x=some v)->LR H m (startB df.scope.names p0 b bs (ps.zip ts)).l l0)->
     (∀(hp:bo) (cs:List (ag×aw)) (cm:ag->Option an),cs.map ai=eU df.scope.names->(∀n c,(n,c)∈cs->hp.IsCell c (cm n))->(∀x c,(x,c)∈cs->∀v,((df.params.args.map (·.arg)).zip (.ref b::vs)).lookup x=some v->cm x=some v)->
       ∃lc P,CR H cs (startB df.scope.names p0 b bs (ps.zip ts)).c P/\P.Perm (lc++l1)/\lc.map ai=cs.map ak/\∀p∈lc,hp.get? p.1=some p.2)->
     ∃a,G.mg df.name=some (.ref a)/\ae G (d+1) H [(b,ob)] (fU (.ref a) (.ref b::vs)) (λv H' l=>∃t cx i j,VR H' t v/\aF H' cx i/\cj j i/\cx.length<=bO/\l=[(b,j)]/\Q t cx):=λl0 l1 el Y hC=>by
  have :=ae.ofDef (G:=G) (d:=d) (df:=df) (vs:=.ref b::vs) (H:=H) (l0:=l0) (l1:=l1) (S0:=startB df.scope.names p0 b bs (ps.zip ts)) (Q:=λv H' l=>∃t cx i j,VR H' t v/\aF H' cx i/\cj j i/\cx.length<=bO/\l=[(b,j)]/\Q t cx)
   hm W hg (by simp[hlen,hl,I])
   (by unfold startB;simp only[jy,show(ai ∘ ph p0 b bs (ps.zip ts))=id from rfl,zj]) Y hC λΓ led aJ hs=>?_
  · rw[el]at this;exact this
  · refine ae.post (h Γ b aJ H led hs) λf H' l le Z=>?_
    refine aj λs=>?_
    obtain⟨oo,S',C,s',t,cx,DZ,z,q⟩:=Z
    refine s ?_
    have fin: ∀v,VR H' t v->∃l1 l2,l.Perm (l1++l2)/\∃t cx i j,VR H' t v/\aF H' cx i/\cj j i/\cx.length<=bO/\l2=[(b,j)]/\Q t cx:=by
      intro v rt
      induction z with
      |l L=>
        refine aj λs=>?_
        obtain⟨oL,m,l2,r,hp,hn,⟨bA,o',X,M,J,E,rfl⟩,k⟩:=s'.openL L
        refine s ?_
        exact⟨(Γ.env.locals,oL)::r,[(b,o')],hp.trans gO,t,cx,bA,o',rt,M,J,E,rfl,q⟩
      |c L hk hd=>
        refine aj λs=>?_
        obtain⟨c,oc,vo,l2,r,h1,h2,hp,⟨bA,o',X,M,J,E,rfl⟩,k⟩:=s'.openC L
        refine s ?_
        exact⟨(c,oc)::r,[(b,o')],hp.trans gO,t,cx,bA,o',rt,M,J,E,rfl,q⟩
    rcases DZ with rfl|⟨rfl,rfl⟩
    · obtain⟨v,rfl,rv⟩:=C;exact fin v rv
    · have C:f= .next:=C
      subst C
      exact fin .none VR.ofNone
 obtain⟨a',O,k⟩: ∃a,G.mg df.name=some (.ref a)/\ae G (d+1) H [(b,ob)] (fU (.ref a) (.ref b::vs)) (λv H' l=>∃t cx i j,VR H' t v/\aF H' cx i/\cj j i/\cx.length<=bO/\l=[(b,j)]/\Q t cx):=by
   rcases U with⟨w,k2⟩|⟨w,k2⟩
   · refine key [(b,ob)] [] rfl (λm u=>LR.startB rs hb lo hz (u p0 w _ N) _ ((zr.map ai).nodup g3) w λx hx A v ev=>u x hx v (B x v A ev)) λhp cs cm hk c1 c2=>?_
     have k2:p0 ∉ cs.map ai:=by rw[hk];exact k2
     obtain⟨lc,hc,e,u⟩:=CR.start (ps:=ps) rs cs c1 λx c hm v ev=>c2 x c hm v (B x v (λe=>k2 (e▸j6 (f:=ai) hm)) ev)
     refine⟨lc,lc,?_,by rw[ou],e,u⟩
     show CR H cs ((eU df.scope.names).map (ph p0 b bs (ps.zip ts))) lc
     rw[← hk,G9 k2];exact hc
   · refine key [] [(b,ob)] rfl (λm u=>?_) λhp cs cm hk c1 c2=>?_
     · show LR H m ((fh df.scope.names).map (ph p0 b bs (ps.zip ts))) []
       rw[G9 w]
       exact LR.start rs _ λx hx v ev=>u x hx v (B x v (λe=>w (e▸hx)) ev)
     · have S:p0∈cs.map ai:=by rw[hk];exact k2
       obtain⟨⟨x,c⟩,F,rfl⟩:=bF.mp S
       have :=CR.startB (hp:=hp) (p0:=x) (ps:=ps) rs hb lo hz (cm:=cm) (c2 x c F _ N) cs (by rw[hk];exact Ea) S c1 λy c hm A v ev=>c2 y c hm v (B y v A ev)
       simp only[hk]at this
       exact this
 obtain rfl:a=a':=by simp only[ha]at O;cases O;rfl
 exact k
end
section
set_option maxRecDepth 20000
variable {G:aK} {d:Nat} {Γ:Fm} {S:St}
noncomputable def F0:T->Bool
 | .none=>false
 |_=>true
theorem cK.isNot{t:T}:cK G .IsNot t .none (F0 t):=λd H v w c hw=>by
 have hw:w= .none:=hw
 subst hw
 refine cA.read λA s ok hp tk hf z_=>?_
 cases t with
 |none=>
  have c:v= .none:=c
  subst c
  exact wpAny_isNot_plain rfl ⟨⟨_,rfl⟩,VR.ofBool⟩
 |bool b=>obtain rfl:=c.bool;exact zA rfl (λe=>by cases e) ⟨⟨_,rfl⟩,VR.ofBool⟩
 |int b=>obtain⟨_,rfl⟩:=c.int;exact zA rfl (λe=>by cases e) ⟨⟨_,rfl⟩,VR.ofBool⟩
 |str b=>obtain⟨_,rfl⟩:=c.str;exact zA rfl (λe=>by cases e) ⟨⟨_,rfl⟩,VR.ofBool⟩
 |list ts=>obtain⟨a,_,_,rfl,_⟩:=c.list;exact zA rfl (λe=>by cases e) ⟨⟨_,rfl⟩,VR.ofBool⟩
 |tup ts=>
  obtain⟨a,_,_,rfl,_⟩: ∃a vs o,v= .ref a/\H a=some o/\iS o vs/\aF H ts vs:=c
  exact zA rfl (λe=>by cases e) ⟨⟨_,rfl⟩,VR.ofBool⟩
theorem VR.pair{H:PM}{a b:Int}{v:an}(h:VR H (.tup [.int a,.int b]) v): ∃x t u o,v= .ref x/\H x=some o/\iS o [.int a t,.int b u]:=by
 refine aj λd=>?_
 obtain⟨x,vs,o,rfl,hx,ho,rs⟩: ∃c vs o,v= .ref c/\H c=some o/\iS o vs/\aF H [.int a,.int b] vs:=h
 obtain⟨v1,r1,rfl,⟨t,rfl⟩,v2,r2,rfl,⟨u,rfl⟩,rfl⟩:=rs
 refine d ?_
 exact⟨x,t,u,o,rfl,hx,ho⟩
theorem cK.neR{a b c e:Int}:cK G .NotEq (.tup [.int a,.int b]) (.tup [.int c,.int e]) (!(a==c&&b==e)):=λd H v w o hw=>by
 refine aj λq=>?_
 obtain⟨x,t,u,⟨k,dd,dat,sl⟩,rfl,hx,hc,n,hd⟩:=o.pair
 obtain⟨y,t2,i,⟨k2,g,dat2,f⟩,rfl,l,h,m,hd2⟩:=hw.pair
 refine q ?_
 dsimp only at hc hd h hd2
 subst hc hd h hd2
 refine cA.read λA s ok hp tk hf z_=>?_
 have p:A.units<cLine:=by have :=ok.2.2;lia
 refine zv (op:=.NotEq) ⟨_,hf _ _ hx,rfl⟩ ⟨_,hf _ _ l,rfl⟩ F.slot_tuple_ne F.entry_tuple_ne (F.args_tuple_ne_2 _ _)
  (SeqAt.tuple_neAt x y _ _ n m dd g sl f (λj=>if j=0 then a==c else b==e)) ⟨hf _ _ hx,hf _ _ l,λj q1 q2=>?_,(λx=>nomatch x),⟨_,rfl⟩,?_⟩ p
 ·match j,q1 with
  |0,_=>exact E8 _ _ _ _
  |1,_=>exact E8 _ _ _ _
 ·have :(!((kR (min [Fg a t,.int b u].toArray.size [Fg c t2,.int e i].toArray.size)).all (λj=>if j=0 then a==c else b==e)&& [Fg a t,.int b u].toArray.size== [Fg c t2,.int e i].toArray.size))= !(a==c&&b==e):=by
   show(!((kR 2).all (λj=>if j=0 then a==c else b==e)&&true))=_
   rw[show kR 2=[0,1]from rfl]
   simp
  rw[this];exact VR.ofBool
noncomputable def KB(e:Expr):Bool:=e.ctorIdx==23 ||e.ctorIdx==16
theorem Tr.val{e:Expr}{Q:Bool->St->Prop}(hp:KB e=true)(h:Ev G d Γ S e λt S1=>∃b,t= .bool b/\Q b S1):Tr G d Γ S e Q:=by
 intro H led hs
 have c:isTrue e Γ.env (eval e Γ.env)=(do let v ← eval e Γ.env;mO e.pos;j5 [v] (truthy v)):=by cases e<;>first |rfl|cases hp
 rw[c]
 refine ae.bind ((h H led hs).mono λv H' l le f=>?_)
 obtain⟨t,S1,rt,s1,b,a,q⟩:=f
 subst a
 obtain rfl:=rt.bool
 exact ae.bind (ae.standAt (ae.holding (ae.truthyBool ⟨S1,s1,q⟩)))
theorem Ev.and2{x y:Expr}{pos:ax}{Q:T->St->Prop}(h:Ev G d Γ S x λt S1=>∃b,t= .bool b/\(b=false->Q (.bool false) S1)/\(b=true->Ev G d Γ S1 y Q)):Ev G d Γ S (.BoolOp .And [x,y] pos) Q:=by
 intro H led hs
 show ae G d H led (do
  let v ← eval x Γ.env
  mO pos
  let t ← j5 [v] (truthy v)
  match BoolOp.And,t with
  | .And,false| .Or,true=>aH v
  |_,_=>eval y Γ.env) _
 refine ae.bind ((h H led hs).mono λv H' l le c=>?_)
 obtain⟨t,S1,rt,s1,b,a,q1,q2⟩:=c
 subst a
 obtain rfl:=rt.bool
 refine ae.bind (ae.standAt (ae.bind (ae.holding (ae.truthyBool ?_))))
 induction b with
 |false=>exact ae.pure ⟨.bool false,S1,rt,s1,q1 rfl⟩
 |true=>exact q2 rfl H' l s1
theorem cY.isStr{H:PM}{ts:List T}{v:an}(b:VR H (.tup ts) v):cA G d H (fU (.builtin "isinstance") [v,.type "str"]) (.bool false):=by
 refine aj λc=>?_
 obtain⟨a,vs,o,rfl,ha,ho,rs⟩: ∃a vs o,v= .ref a/\H a=some o/\iS o vs/\aF H ts vs:=b
 refine c ?_
 exact cA.read λA s ok hp tk hf z_=>call_isinstance (isinstance_false_tuple (by decide+kernel) (by rfl) (by kernel_rfl)) ⟨⟨_,hf _ _ ha,ho.1⟩,⟨_,rfl⟩,VR.ofBool⟩
theorem HU(bl:Array an)(n:Nat)(f:Array an->Array an)(hf:f bl≠bl->True): ∃a,zl f {cls:=.type "list",dict:=none,data:=.seq bl n,slots:=#[]}={cls:=.type "list",dict:=none,data:=.seq (f bl) a,slots:=#[]}:=by
 unfold zl
 exact⟨_,rfl⟩
theorem ae.pop{H:PM}{a:aw}{o:bn}{vs:List an}{v:an}(ho:cj o (vs++[v]))(hz:vs.length<bO):
  ae G d H [(a,o)] (fU (.builtin "list.pop") [.ref a]) (rK (· =v) H a vs):=by
 obtain⟨n,rfl⟩:=ho
 refine ae.owned1 λA s ok hp g c hf=>?_
 refine Mh F.slot_list_pop ⟨_,c,rfl⟩ F.entry_list_pop ?_ (F.args_list_pop_1 _)
 show cW _ _ (do
  let xs ← PySem.Builtin.List.listItems (.ref a)
  if xs.isEmpty then do og "list.pop.empty";raiseError "IndexError" "pop from empty list"
  match(zg (-1) xs.size).bind λk=>xs[k]?.map (k, ·)with
   |some (k,x)=>do PySem.Builtin.List.listUpdate (.ref a) (·.eraseIdxIfInBounds k);ret x
   |none=>do og "list.pop.out-of-range";raiseError "IndexError" "pop index out of range") _ _ _
 refine bN (wpAny_listItems c rfl ?_)
 have hs:(vs++[v]).toArray.size=vs.length+1:=by simp
 rw[if_neg (by simp)]
 have e:((zg (-1) (vs++[v]).toArray.size).bind λk=>(vs++[v]).toArray[k]?.map (k, ·))=some (vs.length,v):=by
  rw[hs]
  unfold zg
  rw[show(if(-1)<0 then -1+((vs.length+1:Nat):Int)else -1)=(vs.length:Int) by rw[if_pos (by decide)];lia]
  rw[if_pos (by simp;lia)]
  simp
 have f:(vs++[v]).toArray.eraseIdxIfInBounds vs.length=vs.toArray:=by
  unfold Array.eraseIdxIfInBounds
  rw[dif_pos (by rw[hs];lia)]
  simp[List.eraseIdx_append_of_length_le]
 rw[e]
 obtain⟨h,hm⟩:=HU (vs++[v]).toArray n (λx=>x.eraseIdxIfInBounds vs.length) λz_=>trivial
 rw[f]at hm
 refine bN (wpAny_updateSeq c rfl ?_ (hz:=by rw[hs];exact hz) (_hz':=by show((vs++[v]).toArray.eraseIdxIfInBounds vs.length).size<=_;rw[f,j9];lia))
 refine dq ⟨_,rfl,_,g,_,rfl,λb ob hb e=>((Xz ..).2 b hb).trans e,Mi _ c (by rw[hm];rfl),rfl,rfl,_,rfl,h,?_⟩
 rw[hm]
theorem PZ(a b:Nat):min a b+(b-a+1)=b+1:=by
 rcases Nat.le_total a b with h|h
 ·rw[Fh h, ← mT,tO h]
 ·rw[Nat.min_eq_right h,Nat.sub_eq_zero_of_le h,rk]
theorem ae.insert{H:PM}{a:aw}{o:bn}{vs:List an}{x:Int}{u:Tok}{v:an}(ho:cj o vs)(h0:0<=x)(h1:x<=vs.length)(hz:vs.length<1000000):
  ae G d H [(a,o)] (fU (.builtin "list.insert") [.ref a,.int x u,v]) (rK (· = .none) H a (vs.take x.toNat++v::vs.drop x.toNat)):=by
 obtain⟨n,rfl⟩:=ho
 refine ae.owned1 λA s ok hp g f hf=>?_
 have kI:bO=16777216:=eA
 have c:¬ (!Ml x)=true:=by
  unfold Ml
  have h1:decide (-(2^63:Int)<=x)=true:=decide_eq_true (by lia)
  have h2:decide (x<2^63)=true:=decide_eq_true (by lia)
  rw[h1,h2];decide
 have h:vs.toArray.size<=bO:=by simp only[j9];lia
 refine Fe F.slot_list_insert ⟨_,f,rfl⟩ F.entry_list_insert (F.args_list_insert_3 _ _ _) (PySem.AutoSeq1.list_insert_list_int_val_1 a vs.toArray n x u v c h) ⟨f,?_⟩
 obtain⟨i,hm⟩:=HU vs.toArray n (λxs=>have k:=if x<0 then(x+((xs.size:Nat):Int)).toNat else min x.toNat xs.size;(xs.extract 0 k).push v++xs.extract k) λz_=>trivial
 refine⟨_,g,_,rfl,λb ob hb e=>((Xz ..).2 b hb).trans e,Mi _ f (by rw[hm];rfl),rfl,rfl,_,rfl,i,?_⟩
 rw[hm]
 have e:(if x<0 then(x+((vs.toArray.size:Nat):Int)).toNat else min x.toNat vs.toArray.size)=x.toNat:=by
  rw[if_neg (by lia)]
  simp only[j9];lia
 dsimp only
 rw[e]
 simp
 rw[e9 (by simp)]
theorem Ex.insert{x:ag}{p apos cN pos:ax}{i e:Expr}{a:aw}{jt:List T}{Q:cC->St->Prop}(g:(apos.endLine==cN.line)=true)(hi:bh i=true)(hp:bh e=true)(ho:dp Γ S x a jt)
  (h:Ev G d Γ S i λj S1=>∃k,j= .int k/\Ev G d Γ S1 e λt S2=>∃ts R S3,iW Γ S2 x a ts R/\0<=k/\k<=ts.length/\ts.length<1000000/\R (ts.take k.toNat++t::ts.drop k.toNat) S3/\Q .next S3):Ex G d Γ S (.Expr (.Call (.Attribute (.Name x p) "insert" apos) [i,e] [] cN) pos) Q:=by
 intro H led hs
 refine ae.exprStmt hs.wf.kind rfl ?_
 refine ae.method (by simp[hp,hi]) rfl g F.slot_list_insert F.type_list_insert hs ho ?_
 refine ae.callBuiltinM (by simp[hp,hi]) (ae.spliced_cons hi ((h H led hs).mono λw H1 l1 iB b=>?_))
 refine aj λc=>?_
 obtain⟨j,S1,f,s1,k,ej,he⟩:=b
 rw[ej]at f
 obtain⟨u,n⟩:=f.int
 refine c ?_
 rw[n]
 refine ae.spliced_cons hp ((he H1 l1 s1).mono λv H' l le b=>ae.pure ?_)
 refine aj λc=>?_
 obtain⟨t,S2,rt,s2,ts,R,S3,hm,h0,h1,hz,hR,q⟩:=b
 refine c ?_
 have m:bO=16777216:=eA
 exact hm.act s2 hR (by simp only[fF,kX,ze,wi];exact aZ (iK (PZ _ _)) (by rw[m];exact aZ hz (by decide))) λvs o rs lo iA=>⟨vs.take k.toNat++v::vs.drop k.toNat,(· = .none),λH' le=>((rs.mono le).take _).append (aF.cons (rt.mono le) ((rs.mono le).drop _)),ae.insert lo h0 (by rw[rs.length];exact h1) (by rw[rs.length];exact hz),λr H' l le e s3=>⟨e,.next,S3,rfl,s3,q⟩⟩
theorem aF.snoc{H:PM}: ∀{ts:List T} {t:T} {vs:List an},aF H (ts++[t]) vs->∃ws v,vs=ws++[v]/\aF H ts ws/\VR H t v:=λh=>by
 refine aj λa=>?_
 obtain⟨v1,v2,e,h1,h2⟩:=h.split
 obtain⟨v,bA,rfl,rv,rfl⟩:=h2
 refine a ?_
 exact⟨v1,v,e,h1,rv⟩
theorem Ev.pop{x:ag}{p apos cN:ax}{a:aw}{ts:List T}{t:T}{R:List T->St->Prop}{S1:St}{Q:T->St->Prop}(f:(apos.endLine==cN.line)=true)(ho:dp Γ S x a (ts++[t]))(hm:iW Γ S x a (ts++[t]) R)(hR:R ts S1)(h:Q t S1):
  Ev G d Γ S (.Call (.Attribute (.Name x p) "pop" apos) [] [] cN) Q:=by
 intro H led hs
 refine ae.method (es:=[]) (by simp) rfl f F.slot_list_pop F.type_list_pop hs ho ?_
 have key:ae G d H led (fU (.builtin "list.pop") [.ref a]) (IG Γ Q):=by
  refine aj λb=>?_
  obtain⟨_,_,_,_,_,_,hz,_⟩:=hm.open hs
  refine b ?_
  rw[fF]at hz
  refine hm.act hs hR (Nat.le_of_succ_le hz) λvs o rs lo z_=>?_
  refine aj λb=>?_
  obtain⟨ws,v,i,dw,rt⟩:=rs.snoc
  refine b ?_
  rw[i]at lo
  exact⟨ws,(· =v),λH' le=>dw.mono le,ae.pop lo (by rw[dw.length];exact hz),λr H' l le e s3=>⟨t,S1,by rw[e];exact rt.mono le,s3,h⟩⟩
 exact λA s g c fl ok sp=>Calls.callWith_builtin rfl (evalArgs_empty (key A s g c fl ok sp))
theorem FZ{prog:jV}{w:n9}{A:gq}{E:an->bt->Prop}{s:bt}{l:aw}{items:Array an}{Q:an->bt->Prop}(hl:s.heap.IsList l items)
  (h: ∀a:bt,a={s with heap:=s.heap.push {cls:=.type "list_iterator",data:=.fields #[.ref l,.int 0 0]}}->
   (a.heap.IsListIter s.heap.objs.size l 0/\a.heap.IsList l items)->(∀b∈[s.heap.objs.size,l],b<a.heap.objs.size)->l≠s.heap.objs.size->Q (.ref s.heap.objs.size) a):
  cW (lS prog w) A (wa (.ref l)) Q E s:=by
 have c:l<s.heap.objs.size:=by obtain⟨_,e,_⟩:=hl;exact gm e
 refine Md hl (h _ rfl ⟨⟨_,tC _ rfl,rfl,rfl⟩,hl.push _⟩ (λb hb=>?_) (tL c))
 show b< (s.heap.push _).objs.size
 rw[Heap.size_push]
 rcases bz.mp hb with rfl|hb
 ·exact lU _
 ·obtain rfl:=bC.mp hb
  exact Nat.lt_succ_of_lt c
theorem cY.sumL{ns:List Int}:cY G d (.builtin "sum") [.list (ns.map .int)] (.int (preSum (λi=>ns[i]?.getD 0) ns.length)):=λH vs rs=>by
 refine aj λc=>?_
 obtain⟨v,bA,rfl,rv,rfl⟩:=rs
 obtain⟨a,vs,o,rfl,ha,ho,hz,rs⟩:=rv.list
 refine c ?_
 have i1:=rs.ints
 have hlen:vs.toArray.size=ns.length:=by have :=rs.length;simpa using this
 refine cA.grow λA s ok hp tk hf z_=>?_
 refine call_sum_walkG (FZ (ho.isList (hf _ _ ha)) λnY e st f g=>?_)
 subst e
 refine⟨_,_,_,_,_,_,λi=>ns[i]?.getD 0,rfl,Walks.list (A:=A.in1) ok.1 _ a g vs.toArray,st,f,λi v e=>un i1 (by simpa using e),λh' aU t' hk=>?_⟩
 rw[hlen]
 exact⟨⟨h',aU,λb o e=>hk b o (λhm=>by
  obtain rfl:=bC.mp hm
  exact absurd (gm e) (jY _)) (jZ _ e),rfl⟩,VR.ofInt⟩
theorem aF.bools{H:PM}: ∀{bs:List Bool} {vs:List an},aF H (bs.map T.bool) vs->vs=bs.map Value.bool
 | [],_,h=>h
 |b::bs,_,h=>by
  simp only[gr,aF]at h
  obtain⟨v,bA,rfl,rv,rs⟩:=h
  obtain rfl:=rv.bool
  rw[aF.bools rs];rfl
theorem cY.any{bs:List Bool}:cY G d (.builtin "any") [.list (bs.map .bool)] (.bool (bs.any id)):=λH vs rs=>by
 refine aj λg=>?_
 obtain⟨v,bA,rfl,rv,rfl⟩:=rs
 obtain⟨a,vs,o,rfl,ha,ho,hz,rs⟩:=rv.list
 obtain rfl:=rs.bools
 refine g ?_
 refine cA.grow λA s ok hp tk hf z_=>?_
 refine call_any_walk (FZ (ho.isList (hf _ _ ha)) λnY e st Lb h=>?_)
 subst e
 refine⟨_,_,_,_,_,_,λi=>bs[i]?.getD false,rfl,Walks.list (A:=A.in1) ok.1 _ a h _,st,λi v s Q E c q=>?_,λh' aU hk=>?_⟩
 ·have c:(bs.map Value.bool).toArray[i]? =some v:=c
  rw[Mn,jd]at c
  obtain⟨b,f,rfl⟩:=lX.mp c
  have q:Q (bs[i]?.getD false) s:=q
  rw[f]at q
  exact wpAny_truthy_bool q
 ·have e:(kR (bs.map Value.bool).toArray.size).any (λi=>bs[i]?.getD false)=bs.any id:=by
   rw[E7]
   simp only[List.any_eq_true,rh,j9,bi,id]
   constructor
   ·rintro⟨i,hi,hb⟩
    exact⟨bs[i],Ff hi,by simpa [hi]using hb⟩
   ·rintro⟨b,hb,rfl⟩
    obtain⟨i,hi,e⟩:=Xy.mp hb
    exact⟨i,hi,by simp[hi,e]⟩
  rw[e]
  exact⟨⟨h',aU,λb o e=>hk b o (λhm=>by
   obtain rfl:=bC.mp hm
   exact absurd (gm e) (jY _)) (jZ _ e),rfl⟩,VR.ofBool⟩
theorem ae.unpackT{H:PM}{led:av}{v:an}{t u:T}{Q:List an->PM->av->Prop}(f:VR H (.tup [t,u]) v)(h: ∀a b,VR H t a->VR H u b->Q [a,b] H led):ae G d H led (EY v 2 none) Q:=
 ae.unpackItems f rfl λvs rs=>by
  obtain⟨a,r,rfl,e,b,r2,rfl,c,rfl⟩:=rs
  exact h a b e c
theorem ae.assignSub{x:ag}{p ps:ax}{i:Expr}{v:an}{t:T}{H:PM}{l:av}{S1:St}{a:aw}{jt:List T}{Q:Unit->PM->av->Prop}(hi:dM i=true)(s1:bd Γ S1 H l)(rt:VR H t v)(ho:dp Γ S1 x a jt)
  (h:Ev G d Γ S1 i (z6 Γ x a t λS3=>∀H' l',Le H H'->bd Γ S3 H' l'->Q () H' l')):ae G d H l (kW (.Subscript (.Name x p) i ps) Γ.env v) Q:=by
 rw[arm_assign_Subscript]
 refine ae.bind (ae.holding (dp.read s1 ho ?_))
 refine ae.bind (ae.holding ((h H l s1).mono λw H2 l2 e n=>?_))
 refine aj λb=>?_
 obtain⟨j,S2,c,s2,k,ts,R,S3,ej,hm,h0,h1,hR,q⟩:=n
 rw[ej]at c
 obtain⟨u,m⟩:=c.int
 refine b ?_
 rw[m]
 refine aj λb=>?_
 obtain⟨_,_,_,_,_,_,hz,_⟩:=hm.open s2
 refine b ?_
 exact ae.bind (ae.standAt (ae.bind (ae.holding (hm.act s2 hR (by rw[List.length_set];exact hz) λvs o rs lo g=>⟨vs.set k.toNat v,λf=>True,λH' le=>aF.set (rt.mono (e.trans le)) (rs.mono le),ae.setItem lo h0 (by rw[rs.length];exact h1) (by rw[rs.length];exact g),λr H' l le f s3=>ae.release (q H' l (e.trans le) s3)⟩))))
theorem Ex.setSub2{x:ag}{p p2 ps iD pt pv pos:ax}{kt kv:Nat}{i i2 e e2:Expr}{Q:cC->St->Prop}(hi:dM i=true)(n:dM i2=true)(A:bh e=true)(D:bh e2=true)
  (hw:wg [.Tuple [.Subscript (.Name x p) i ps,.Subscript (.Name x p2) i2 iD] kt pt] (.Tuple [e,e2] kv pv) Γ.env=aH none)
  (h:Ev G d Γ S e λt S1=>Ev G d Γ S1 e2 λt2 S2=>uU G d Γ x i t S2 λg=>uU G d Γ x i2 t2 g λb=>Q .next b):
  Ex G d Γ S (.Assign [.Tuple [.Subscript (.Name x p) i ps,.Subscript (.Name x p2) i2 iD] kt pt] (.Tuple [e,e2] kv pv) pos) Q:=by
 intro H led hs
 rw[zk,uh rfl,hw]
 refine ae.bind (ae.standAt (ae.bind (ae.pure ?_)))
 show ae G d H led (do let v ← EZ (mR [e,e2] kv pv) Γ.env;let o ← aH none;Mg Γ.env v o ((lT [mR [.Subscript (.Name x p) i ps,.Subscript (.Name x p2) i2 iD] kt pt] Γ.env).map (·.2))) _
 refine ae.bind ((Ev.tuple (Q:=λt S2=>∃t1 t2,t= .tup [t1,t2]/\uU G d Γ x i t1 S2 λg=>uU G d Γ x i2 t2 g λb=>Q .next b)
  (b8.cons A (h.mono λt S1 h=>b8.cons D (h.mono λt2 S2 h=>b8.nil ⟨by rw[eA];show 2<=16777216;decide,t,t2,rfl,h⟩))) H led hs).mono λv H' l le c=>?_)
 refine aj λf=>?_
 obtain⟨t,S2,rt,s2,t1,t2,F,a,jt,ho,E⟩:=c
 refine f ?_
 rw[F]at rt
 show ae G d H' l (do E0 v [kW (mR [.Subscript (.Name x p) i ps,.Subscript (.Name x p2) i2 iD] kt pt) Γ.env];aH tM) _
 refine ae.bind ?_
 show ae G d H' l (kW (mR [.Subscript (.Name x p) i ps,.Subscript (.Name x p2) i2 iD] kt pt) Γ.env v) _
 rw[arm_assign_Tuple]
 refine ae.bind (ae.standAt ?_)
 unfold PySem.unpack
 refine ae.bind (ae.holding (ae.unpackT rt λv1 v2 r1 z=>?_))
 show ae G d H' l (do j5 [v2] (kW (.Subscript (.Name x p) i ps) Γ.env v1);j5 [] (kW (.Subscript (.Name x p2) i2 iD) Γ.env v2);aH ()) _
 refine ae.bind (ae.holding (ae.assignSub hi s2 r1 ho (E.mono λj S3 c=>?_)))
 refine aj λf=>?_
 obtain⟨k,ts,R,g,ej,hm,h0,h1,hR,a2,vy,B,L⟩:=c
 refine f ?_
 refine⟨k,ts,R,g,ej,hm,h0,h1,hR,λH2 l2 I s4=>ae.bind (ae.holding (ae.assignSub n s4 (z.mono I) B (L.mono λj2 S5 c=>?_)))⟩
 refine aj λf=>?_
 obtain⟨k2,m,J,b,u,C,s,w,r,q⟩:=c
 refine f ?_
 exact⟨k2,m,J,b,u,C,s,w,r,λH3 l3 dE y=>ae.pure (ae.pure ⟨.next,b,rfl,y,q⟩)⟩
inductive I7(I a:aw)(ts:List T)(k:Nat)(H:PM)(l:av):Prop
 |mk (o:bn) (vs:List an) (ol:bn) (e:l=[(I,o)]) (c:o.cls= .type "tuple_iterator") (dd:o.data= .fields #[.ref a,.int k 0]) (ha:H a=some ol) (hl:iS ol vs) (rs:aF H ts vs)
theorem f8.tuple{tgt:Expr}(m:fN tgt=false){I a:aw}{ts:List T}:f8 G d tgt (.ref I) ts (I7 I a ts) where
 mono:=λk H H' l le h=>by
  obtain⟨o,vs,ol,e,c,dd,ha,hl,rs⟩:=h
  exact⟨o,vs,ol,e,c,dd,le _ _ ha,hl,rs.mono le⟩
 item:=λk t H l hk h=>by
  obtain⟨o,vs,ol,e,c,dd,ha,hl,rs⟩:=h
  subst e
  obtain⟨v,j,rv⟩:=rs.get hk
  refine ae.owned1 λA s ok hp f ho hf=>?_
  have g:=hl.isTup (hf _ _ ha).1
  refine wpAny_pyNext_tuple_item (it:=I) (t:=a) (i:=k) ⟨o,ho,c,dd⟩ g (x:=v) (by simpa using j) λh' hit hs=>?_
  obtain⟨o',n,q,p⟩:=hit
  exact⟨h',f,o',rfl,λb ob hb e=>(hs.2 b hb).trans e,n,v,rfl,rv,ae.of_pure (CB m) ⟨o',vs,ol,rfl,q,p,ha,hl,rs⟩⟩
 done:=λH l h=>by
  obtain⟨o,vs,ol,e,c,dd,ha,hl,rs⟩:=h
  subst e
  refine ae.lost1 λA s ok hp f ho hf=>?_
  have hlen:=rs.length
  exact wpAny_pyNext_tuple_end (i:=ts.length) ok.1 ⟨o,ho,c,dd⟩ (hl.isTup (hf _ _ ha).1) (by simp[hlen]) λh' he=>⟨h',f,rfl,λb ob hb e=>he b ob hb e,rfl⟩
 again:=λk H l h=>by
  obtain⟨o,vs,ol,e,c,dd,ha,hl,rs⟩:=h
  subst e
  exact ae.read λA s ok hp f ho hf=>wpAny_pyIter_tupleiter (i:=k) ⟨o,ho (I,o) (.head _),c,dd⟩ ⟨⟨_,rfl⟩,rfl,rfl,rfl⟩
theorem ck.tuple{tgt e:Expr}(c:fN tgt=false){Q:List T->St->Prop}(h:Ev G d Γ S e λt S1=>∃ts,t= .tup ts/\Q ts S1):ck G d Γ S tgt e Q:=by
 intro H led hs
 refine(h H led hs).mono λv H1 l1 le g=>?_
 obtain⟨t,S1,rt,s1,ts,f,q⟩:=g
 subst f
 obtain⟨a,vs,o,rfl,ha,ho,rs⟩: ∃a vs o,v= .ref a/\H1 a=some o/\iS o vs/\aF H1 ts vs:=rt
 intro A s hp b fl ok sp
 refine wpAny_pyIter_tuple (ho.isTup (sp.frz _ _ ha)) ?_
 exact⟨_,b,H1,(hp.objs.size,_)::l1,rfl,.refl _,a5.alloc sp _ rfl,ts,S1,I7 hp.objs.size a ts,[(hp.objs.size,_)],l1,rfl,f8.tuple c,⟨_,vs,o,rfl,rfl,rfl,ha,ho,rs⟩,s1,q⟩
end
section
set_option maxRecDepth 20000
variable {G:aK} {d:Nat} {Γ:Fm} {S:St}
theorem HT:1<q6:=by decide
theorem gi.dict0{pos:ax}{Q:R->St->Prop}(h: ∀a,Q (.dc a []) S):gi G d Γ S (.Dict [] [] pos) Q:=by
 intro H led hs
 refine λA s hp c fl ok sp=>?_
 simp only[eval_Dict_empty]
 refine bN (vZ ?_)
 refine tF ?_
 have hb:=G.top.g
 refine aj λf=>?_
 obtain⟨om,_,_,em,_⟩:=hb
 refine f ?_
 have e:=gm (sp.frz _ _ (sp.base _ _ em))
 have hm:=HT
 refine⟨_,c,H,(hp.objs.size,_)::led,rfl,.refl _,a5.alloc sp _ rfl,.dc hp.objs.size [],S,[(hp.objs.size,_)],led,rfl,⟨_,rfl,?_,rfl⟩,hs,h _⟩
 exact⟨#[],0,[],beq_eq_false_iff_ne.mpr (zB (zC hm e)),⟨rfl,rfl,rfl⟩,rfl,λb b=>rfl,(λx hx=>nomatch hx),Mj,rfl⟩
theorem yd{prog:jV}{w:n9}{H:PM}{hp:bo}{a b:Int}{x:aw}(hf: ∀a o,H a=some o->hp.get? a=some o)(h:VR H (.tup [.int a,.int b]) (.ref x)):IsTupleKey (iH prog w) hp [a,b] x:=by
 refine aj λc=>?_
 obtain⟨y,t,u,o,e,hx,hc,n,hd⟩:=h.pair
 refine c ?_
 cases e
 exact⟨o,_,n,hf _ _ hx,hc,hd,.cons (by simp[iH,Value.isInt]) (.cons (by simp[iH,Value.isInt]) .nil)⟩
theorem lv.of{prog:jV}{w:n9}{H:PM}{hp:bo}{d:aw}{o:bn}{ks:List (Int×Int)}(hf: ∀a o,H a=some o->hp.get? a=some o)(ho:hp.get? d=some o)(h:lv H d o ks):
  ∃xs,hp.DictOfH (v4 (iH prog w)) d xs/\(∀x∈xs,∃a b,x.1=[a,b]/\VR H (.tup [.int a,.int b]) (.ref x.2.1))/\xs.map (·.1)=ks.map λp=>[p.1,p.2]:=by
 refine aj λc=>?_
 obtain⟨es,ep,xs,hd,hx,mE,he,hk,hn,lG⟩:=h
 refine c ?_
 exact⟨xs,⟨o,es,ep,ho,hx,mE,he prog w,λx hx=>by obtain⟨a,b,e,r⟩:=hk x hx;show IsTupleKey _ hp x.1 x.2.1;simp only[e];exact yd hf r,hn⟩,hk,lG⟩
theorem KH{xs:List (List Int×aw×an)}{ks:List (Int×Int)}{p:Int×Int}(h:xs.map (·.1)=ks.map λp=>[p.1,p.2]):(atKey xs [p.1,p.2]).isSome=ks.contains p:=by
 have e:(atKey xs [p.1,p.2]).isSome=(xs.map (·.1)).contains [p.1,p.2]:=by
  unfold atKey
  rw[Option.isSome_map,E7,List.find?_isSome,tP]
  simp only[bF,decide_eq_true_eq]
 rw[e,h,E7,tP,tP,bF]
 constructor
 ·rintro⟨q,hq,e⟩
  obtain⟨q1,q2⟩:=q
  simp only[List.cons.injEq,and_true]at e
  obtain⟨rfl,rfl⟩:=e
  exact hq
 ·exact λh=>⟨p,h,rfl⟩
theorem Dct.open{m:ag}{a:aw}{ks:List (Int×Int)}{H:PM}{led:av}(hs:bd Γ S H led)(e:At S.l m (.dct a ks) (.dct a ks) S.l):
  ∃o r,led.Perm ((a,o)::r)/\lv H a o ks/\(∀pos d (Q:an->PM->av->Prop),Q (.ref a) H led->ae G d H led (eval (.Name m pos) Γ.env) Q)/\
   ∀b σ',At S.l m (.dct a ks) (.dct a b) σ'->∀H' o',Le H H'->lv H' a o' b->∃bV,bV.Perm ((a,o')::r)/\bd Γ ⟨σ',S.c⟩ H' bV:=by
 refine aj λp=>?_
 obtain⟨oL,f,l2,r,hp,hn,⟨o,hm,hd,rfl⟩,k⟩:=hs.openL e
 refine p ?_
 refine⟨o,(Γ.env.locals,oL)::r,hp,hd,λpos d Q h=>?_,λb σ' n H' o' le j=>k _ _ n H' oL f [(a,o')] le hn (λg g=>rfl) ⟨o',hm,j,rfl⟩⟩
 refine ae.read λA s ok hh tk ho hf=>?_
 have i:=ho (Γ.env.locals,oL) (hp.mem_iff.mpr (iG _ (.head _)))
 exact v5 (EQ (m:=f) hs.wf.kind (hs.local e).1 (hn.ns i) hm ⟨⟨_,rfl⟩,h⟩) (hs.local e).2
theorem Tr.notInD{m:ag}{p pos:ax}{e:Expr}{a:aw}{ks:List (Int×Int)}{Q:Bool->St->Prop}(n:At S.l m (.dct a ks) (.dct a ks) S.l)
  (h:Ev G d Γ S e λt S1=>S=S1/\∃x:Int×Int,t= .tup [.int x.1,.int x.2]/\Q (!ks.contains x) S):Tr G d Γ S (.Compare e [.NotIn] [.Name m p] pos) Q:=by
 intro H led hs
 refine ae.bind ((h H led hs).mono λv H' l' le j=>?_)
 refine aj λc=>?_
 obtain⟨t,S1,rt,s1,i,x,g,q⟩:=j
 refine c ?_
 subst i g
 refine aj λc=>?_
 obtain⟨o,r,hp,hd,y, -⟩:=Dct.open (G:=G) s1 n
 refine c ?_
 refine ae.bind (ae.holding (y _ _ _ ?_))
 refine ae.bind (ae.standAt (ae.bind (ae.operate ?_)))
 refine aj λc=>?_
 obtain⟨b,_,_,_,rfl,_⟩:=rt.pair
 refine c ?_
 refine ae.read λA s ok hh tk ho hf=>?_
 refine aj λc=>?_
 obtain⟨xs,hD, -,lG⟩:=hd.of (prog:=G.prog) (w:=G.w) hf (ho (a,o) (hp.mem_iff.mpr (.head _)))
 refine c ?_
 have f:(v4 (iH G.prog G.w)).room A.in1:=tupleKind_room_in1 (by have :=ok.2.2;lia)
 have u:(a==EP)=false:=by obtain⟨_,_,_,h,_⟩:=hd;exact h
 refine wpAny_notIn_heap (k:=[x.1,x.2]) (a:=b) f (yd hf rt) u hD ⟨⟨_,rfl⟩,?_⟩
 rw[KH lG]
 exact ae.holding (ae.truthyBool ⟨S,s1,q⟩)
noncomputable def eN(ks:List (Int×Int))(p:Int×Int):List (Int×Int):=if ks.contains p then ks else ks++[p]
theorem ae.setD{H:PM}{a b:aw}{o:bn}{ks:List (Int×Int)}{x:Int×Int}{v:an}(hd:lv H a o ks)(hb:VR H (.tup [.int x.1,.int x.2]) (.ref b))(hz:ks.length<=bO):
  ae G d H [(a,o)] (E1 (.ref a) (.ref b) v) λi H' l=>H'=H/\∃o',l=[(a,o')]/\lv H a o' (eN ks x):=by
 refine ae.owned1 λA s ok hp tk t hf=>?_
 obtain⟨es,ep,xs,F,hx,mE,he,hk,hn,lG⟩:=hd
 have hlen:xs.length=ks.length:=by have :=congrArg aR lG;simpa using this
 have hD: ∀prog w,hp.DictOfH (v4 (iH prog w)) a xs:=λprog w=>⟨o,es,ep,t,hx,mE,he prog w,λx hx=>by obtain⟨a,b,e,r⟩:=hk x hx;show IsTupleKey _ hp x.1 x.2.1;rw[e];exact yd (λa o e=>(hf a o e).1) r,hn⟩
 have p:(v4 (iH G.prog G.w)).room A.in1:=tupleKind_room_in1 (by have :=ok.2.2;lia)
 refine wpAny_setItem_heap (knd:=v4 (iH G.prog G.w)) (k:=[x.1,x.2]) (a:=b) p (yd (λa o e=>(hf a o e).1) hb) (hD _ _) (λh' m C=>?_) (by rw[hlen];exact hz)
 refine aj λE=>?_
 obtain⟨o',g,h,B,u,f,j,his',D⟩:=m
 refine E ?_
 refine⟨h',_,o',rfl,λc ob hc e=>(C.2 c hc).trans e,B,rfl,o',rfl,g,h,storedH xs [x.1,x.2] b v,F,u,f,λi i=>j,λy n=>?_,D,?_⟩
 ·rcases mem_storedH n with⟨z,hz,e1,e2⟩|⟨e1,e2⟩
  ·rw[e1,e2];exact hk z hz
  ·rw[e1,e2];exact⟨x.1,x.2,rfl,hb⟩
 ·unfold eN
  rw[← KH lG]
  cases e:atKey xs [x.1,x.2]with
  |none=>rw[storedH_new e];simp[lG]
  |some q=>simp only[storedH_old e,keys_map_putAt];simpa using lG
inductive RS(Γ:Fm)(Q:cC->St->Prop)(H':PM)(l':av):Prop
 |mk (S3:St) (l2:av) (pm:l'.Perm l2) (s:bd Γ S3 H' l2) (q:Q .next S3)
def o6(G:aK)(d:Nat)(Γ:Fm)(x:ag)(i:Expr)(p ps:ax)(Q:cC->St->Prop)(t:T)(S1:St):Prop:=
 ∀H l v,bd Γ S1 H l->VR H t v->ae G d H l (kW (.Subscript (.Name x p) i ps) Γ.env v) λz_=>RS Γ Q
theorem Ex.subStore{x:ag}{p ps pos:ax}{i e:Expr}{Q:cC->St->Prop}(hn:gB e=true)(h:Ev G d Γ S e (o6 G d Γ x i p ps Q)):Ex G d Γ S (.Assign [.Subscript (.Name x p) i ps] e pos) Q:=by
 intro H led hs
 rw[zk,uh hn]
 refine ae.bind (ae.standAt (ae.bind (ae.pure ?_)))
 refine ae.bind ((h H led hs).mono λv H' l le a=>?_)
 obtain⟨t,S1,rt,s1,b⟩:=a
 show ae G d H' l (do E0 v [kW (Expr.Subscript (.Name x p) i ps) Γ.env];aH tM) _
 refine ae.bind ?_
 refine(b H' l v s1 rt).mono λz_ H2 l2 aV a=>?_
 obtain⟨S3,l3,pm,s3,q⟩:=a
 exact ae.perm (ae.pure ⟨.next,S3,rfl,s3,q⟩) pm
theorem o6.own{x:ag}{p ps:ax}{i:Expr}{t:T}{S1:St}{a:aw}{jt:List T}{Q:cC->St->Prop}(hi:dM i=true)(ho:dp Γ S1 x a jt)
  (b:Ev G d Γ S1 i (z6 Γ x a t (Q .next))):o6 G d Γ x i p ps Q t S1:=λH l v s1 rt=>
 ae.assignSub hi s1 rt ho (b.mono λj S2 c=>by
  obtain⟨k,ts,R,S3,ej,hm,h0,h1,hR,q⟩:=c
  exact⟨k,ts,R,S3,ej,hm,h0,h1,hR,λH' l' le s3=>⟨S3,l',.refl _,s3,q⟩⟩)
theorem o6.dct{x:ag}{p ps:ax}{i:Expr}{t:T}{S1:St}{a:aw}{ks:List (Int×Int)}{Q:cC->St->Prop}(h:At S1.l x (.dct a ks) (.dct a ks) S1.l)(hz:ks.length<=bO)
  (k:Ev G d Γ S1 i λj S2=>S1=S2/\∃y σ',j= .tup [.int y.1,.int y.2]/\At S1.l x (.dct a ks) (.dct a (eN ks y)) σ'/\Q .next ⟨σ',S1.c⟩) (hi:dM i=true):o6 G d Γ x i p ps Q t S1:=λH l v s1 rt=>by
 refine aj λe=>?_
 obtain⟨-, -, -, -,B, -⟩:=Dct.open (G:=G) s1 h
 refine e ?_
 refine ae.bind (ae.holding (B _ _ _ ?_))
 refine ae.bind (ae.holding ((k H l s1).mono λw H2 l2 aV f=>?_))
 refine aj λe=>?_
 obtain⟨j,S2,g,s2,s,y,σ',ej,n,q⟩:=f
 refine e ?_
 subst s ej
 refine aj λe=>?_
 obtain⟨b,_,_,_,rfl,_⟩:=g.pair
 refine e ?_
 refine ae.bind (ae.standAt (ae.bind (ae.holding ?_)))
 refine aj λe=>?_
 obtain⟨o,r,hp,hd, -,close⟩:=Dct.open (G:=G) s2 h
 refine e ?_
 refine ae.perm (ae.mono (ae.frame (fr:=r) (ae.setD (v:=v) hd g hz)) λz_ A l' dE f=>?_) hp
 refine aj λe=>?_
 obtain⟨yx,u,e0,o',el,m⟩:=f
 refine e ?_
 subst u el e0
 obtain⟨bV,z,s3⟩:=close _ σ' n A o' (.refl _) m
 exact ae.release ⟨_,bV,z.symm,s3,q⟩
theorem Tr.neOwnE{x:ag}{p lp pos:ax}{a:aw}{ts:List T}{Q:Bool->St->Prop}(ho:dp Γ S x a ts)(q:Q (!ts.isEmpty) S):Tr G d Γ S (.Compare (.Name x p) [.NotEq] [.List [] lp] pos) Q:=by
 intro H led hs
 rw[isTrue_Compare1,yc (op:=.NotEq) (e:=.List [] lp) rfl]
 refine ae.bind (dp.read hs ho (ae.bind (ae.holding (((b5.list (Q:=λb us S1=>us=[]/\S1=S) (b8.nil ⟨by show 0<=bO;trivial,λm=>⟨rfl,rfl⟩⟩)) H led hs).mono λw H' l' le c=>?_))))
 obtain⟨b,ws,o2,us,S1,l,rfl,dw,o,cr,el,s1,u,z⟩:=c
 subst u z el
 have hw:ws=[]:=dw
 subst hw
 refine aj λD=>?_
 obtain⟨f,rfl⟩:=o
 obtain⟨vs,⟨k,dd,dat,sl⟩,hm,rs,⟨n,y⟩,hz⟩:=ho.obj s1
 refine D ?_
 injection y with e1 e2 C B
 subst e1 e2 C B
 have hl:=rs.length
 have key:ae G d H' ((b,{cls:=.type "list",dict:=none,data:=.seq ([]:List an).toArray f,slots:=#[]})::l) (ES .NotEq (.ref a) (.ref b)) λv H2 l2=>v= .bool (!ts.isEmpty)/\H2=H'/\l2=l:=by
  refine ae.post (Q:=λv H2 l2=>v= .bool (!ts.isEmpty)/\H2=H'/\l2=(b,{cls:=.type "list",dict:=none,data:=.seq ([]:List an).toArray f,slots:=#[]})::l) ?_ λv H2 l2 E c=>⟨[(b,{cls:=.type "list",dict:=none,data:=.seq ([]:List an).toArray f,slots:=#[]})],l,by rw[c.2.2];exact tQ _,c.1,c.2.1,rfl⟩
  refine ae.read λA s ok hh tk h hf=>?_
  have i:A.units<cLine:=by have :=ok.2.2;trivial
  have ga:=h _ (List.Mem.tail _ hm)
  have g:=h _ (List.Mem.head _)
  induction ts with
  |nil=>
   have r:vs=[]:=rs
   subst r
   exact zv (op:=.NotEq) ⟨_,ga,rfl⟩ ⟨_,g,rfl⟩ E9 Fa (Fb _ _) (SeqAt.list_neAt a b _ _ n f none none #[] #[] rfl λm=>true)
    ⟨ga,g,(λj q1=>by simp at q1),(λx=>nomatch x),⟨_,rfl⟩,rfl,rfl,rfl⟩ i
  |cons t ts=>
   exact zv (op:=.NotEq) ⟨_,ga,rfl⟩ ⟨_,g,rfl⟩ E9 Fa (Fb _ _) (Xw a b _ _ n f none none #[] #[] (by rw[j9];rw[hl];simp))
    ⟨ga,g,(λx=>nomatch x),⟨_,rfl⟩,rfl,rfl,rfl⟩ i
 refine ae.bind (ae.standAt (ae.bind (ae.operate (key.mono λv H2 l2 E c=>?_))))
 obtain⟨rfl,rfl,rfl⟩:=c
 exact ae.holding (ae.truthyBool ⟨_,s1,q⟩)
theorem Ev.isStr{p p2 pos:ax}{e:Expr}{Q:T->St->Prop}(hg:cI G "isinstance" (.builtin "isinstance"))(j:cI G "str" (.type "str"))(hk:Γ.env.kindOf "isinstance"=some .globalImplicit)(a:Γ.env.kindOf "str"=some .globalImplicit)(hp:bh e=true)
  (h:Ev G d Γ S e λt S1=>∃ts,t= .tup ts/\Q (.bool false) S1):Ev G d Γ S (.Call (.Name "isinstance" p) [e,.Name "str" p2] [] pos) Q:=by
 intro H led hs
 refine ae.bind (ae.gname hs hg hk (by decide) ?_)
 refine ae.callBuiltin (.b _) (by simp only[rd,hp];rfl) (ae.spliced_cons hp ((h H led hs).mono λv H' l le f=>?_))
 refine aj λg=>?_
 obtain⟨t,S1,rt,s1,ts,c,q⟩:=f
 refine g ?_
 subst c
 refine ae.spliced_cons rfl (ae.gname s1 j a (by decide) (ae.pure ?_))
 exact(cY.isStr rt).run λw H2 i rw =>⟨_,S1,rw,s1.mono i,q⟩
end
section
set_option maxRecDepth 20000
noncomputable abbrev SM:=StateT ig bX
noncomputable abbrev aQ:=Array mU
noncomputable abbrev AP:=Array (Nat×Nat×Nat)
structure SC where
 prog:jV
 w:n9
 A:gq
 E:an->bt->Prop
 s:bt
 R:aQ->Prop
structure Kp(R:aQ->Prop)(p:AP)(st:ig):Prop where
 kind:kindOf st=oneType'
 failed:wj st=none
 arr:R (gQ st)
 pend:c9 st=p
def So(c:SC){α:Type}(m:SM α)(Q:α->Prop):Prop:=∀p st,Kp c.R p st->wpS (lS c.prog c.w) c.A c.E c.s m (λa b=>Kp c.R p b/\Q a) st
def uM(u:mU):Prop:=∃n t,u.1= .int n t
noncomputable def oO:Bool->mU->aQ->Nat->Nat->Nat->SM (Option Nat):=sortPriv%PySem.Builtin.gallop
noncomputable def uo:Nat->SM Unit:=sortPriv%PySem.Builtin.setMinGallop
noncomputable def BQ:aQ->aQ->SM aQ:=sortPriv%PySem.Builtin.mergeLo
noncomputable def BD:aQ->aQ->SM aQ:=sortPriv%PySem.Builtin.mergeHi
section
variable {c:SC} {α β:Type}
theorem So.pure{a:α}{Q:α->Prop}(h:Q a):So c (aH a:SM α) Q:=λb b k=>kf ⟨k,h⟩
theorem So.bind{m:SM α}{f:α->SM β}{R:α->Prop}{Q:β->Prop}(h:So c m R)(k: ∀a,R a->So c (f a) Q):So c (m>>=f) Q:=
 λp st hk=>gR (pV (h p st hk) λa b h'=>k a h'.2 p b h'.1)
theorem So.mono{m:SM α}{R Q:α->Prop}(h:So c m R)(k: ∀a,R a->Q a):So c m Q:=λp st hk=>pV (h p st hk) λa fi h'=>⟨h'.1,k a h'.2⟩
theorem So.bindS{m:SM (Option α)}{f:Option α->SM β}{R:α->Prop}{Q:β->Prop}(h:So c m λo=>∃b,o=some b/\R b)(k: ∀b,R b->So c (f (some b)) Q):So c (m>>=f) Q:=
 h.bind λa ha=>ha.elim λb hb=>hb.1▸k b hb.2
theorem So.ite{p:Prop} [Decidable p]{m n:SM α}{Q:α->Prop}(h1:p->So c m Q)(h2:¬p->So c n Q):So c (if p then m else n) Q:=by
 by_cases h:p
 ·rw[if_pos h];exact h1 h
 ·rw[if_neg h];exact h2 h
theorem So.rule{n:String}:So c (liftM (og n):SM Unit) λa=>True:=λa a k=>wpS_lift (EO ⟨rfl,k,trivial⟩)
theorem So.get:So c (pW:SM ig) λa=>True:=λa a k=>pX ⟨k,trivial⟩
theorem So.setMin{g:Nat}:So c (uo g) λz_=>True:=λp st k=>zE (f:=λs=>SortSt.mk' (kindOf s) (gQ s) (c9 s) g (wj s)) ⟨⟨k.kind,k.failed,k.arr,k.pend⟩,trivial⟩
theorem So.elem{a:aQ}{i:Nat}(h0:IntKeys a)(hi:i<a.size):So c (fe a i) λu=>a[i]? =some u/\uM u:=λp st k=>by
 simp only[elem'_eq,getElem?_pos a i hi];exact kf ⟨k,rfl,h0 _ (by simp)⟩
theorem So.lt{u v:mU}(d:uM u)(a:uM v):So c (lt' u v) λo=>∃b,o=some b/\True:=λp st k=>by
 refine aj λe=>?_
 obtain⟨n,t,hn⟩:=d;obtain⟨m,r,hm⟩:=a
 refine e ?_
 rw[lt'_eq,hn,hm]
 refine gR (pX ?_)
 rw[k.kind,keyLt'_oneType]
 exact gR (wpS_lift (wpAny_attempt (oneLt_int ⟨rfl,kf ⟨k,_,rfl,trivial⟩⟩)))
noncomputable def oe{α β:Type}(o:Option α)(d:β)(k:α->β):β:=Fj (motive:=λz_=>β) d k o
noncomputable def g9{α β:Type}(o:Option α)(d:β)(k:α->β):β:=match o with
 |some x=>k x
 |x=>d
def sQ{β:Type}(D Y:β->Prop):ForInStep β->Prop:=ForInStep.rec D Y
theorem So.forR{a b:Nat}{f:Nat->β->SM (ForInStep β)}(I:Nat->β->Prop){Q:β->Prop}{s:β}(g:a<=b)(h:I a s)(j: ∀s,I b s->Q s)
  (e: ∀i s,i<b->I i s->So c (f i s) (sQ Q (I (i+1)))):So c (forIn [a:b] s f) Q:=λp st k=>
 wpS_forRange (I:=λi s st=>Kp c.R p st/\I i s) (λi s st z_ hi d=>pV (e i s hi d.2 p st d.1) λr fi h'=>by
  induction r with
  |done s'=>exact h'
  |yield s'=>exact h') (λs st d=>⟨d.1,j s (Nat.max_eq_right g▸d.2)⟩) ⟨k,h⟩
theorem So.cmp{u v:aQ}{i j:Nat}{f:Option Bool->SM β}{Q:β->Prop}(h1:IntKeys u)(h2:IntKeys v)(hi:i<u.size)(e:j<v.size)(k: ∀b,So c (f (some b)) Q):
  So c (fe u i>>=λx=>fe v j>>=λy=>lt' x y>>=f) Q:=
 (So.elem h1 hi).bind λa hx=>(So.elem h2 e).bind λa d=>(So.lt hx.2 d.2).bindS λb a=>k b
end
noncomputable def qf(left:Bool)(key:mU)(arr:aQ)(base i:Nat):SM (Option Bool):=fe arr (base+i)>>=λx=>if left=true then lt' x key else lt' key x>>=λo=>aH (Fk (λx=> !x) o)
noncomputable def RL(f:Nat->SM (Option Bool))(s:Option (Option Nat)×Nat×Nat):SM (ForInStep (Option (Option Nat)×Nat×Nat)):=
 if s.2.1≥s.2.2 then aH (.done (none,s.2.1,s.2.2))else f (s.2.1+(s.2.2-s.2.1)/2)>>=λo=>g9 o (aH (.done (some none,s.2.1,s.2.2)))
  λmore=>if more=true then aH (.yield (none,s.2.1+(s.2.2-s.2.1)/2+1,s.2.2))else aH (.yield (none,s.2.1,s.2.1+(s.2.2-s.2.1)/2))
noncomputable def C4(f:Nat->SM (Option Bool))(n lo hi:Nat):SM (Option Nat):=
 forIn [0:n] (none,lo,hi) (λz_ s=>RL f s)>>=λs=>oe s.1 (aH (some s.2.2)) λr=>aH r
noncomputable def Pu(f:Nat->SM (Option Bool))(g:Bool->Bool)(m:Nat)(s:Option (Option Nat)×Nat×Nat):SM (ForInStep (Option (Option Nat)×Nat×Nat)):=
 if s.2.2≥m then aH (.done (none,s.2.1,s.2.2))else f s.2.2>>=λo=>g9 o (aH (.done (some none,s.2.1,s.2.2)))
  λmore=>if g more=true then aH (.done (none,s.2.1,s.2.2))else aH (.yield (none,s.2.2,2*s.2.2+1))
noncomputable def CV(f:Nat->SM (Option Bool))(g:Bool->Bool)(n m:Nat)(k:Nat->Nat->SM (Option Nat)):SM (Option Nat):=
 forIn [0:n] (none,0,1) (λz_ s=>Pu f g m s)>>=λs=>oe s.1 (k s.2.1 s.2.2) λr=>aH r
theorem OX(left:Bool)(key:mU)(arr:aQ)(base n hint:Nat):oO left key arr base n hint=(qf left key arr base hint>>=λo=>g9 o (aH none) λright=>
 if right=true then CV (λi=>qf left key arr base (hint+i)) (λb=> !b) n (n-hint) λl o=>C4 (qf left key arr base) n (hint+l+1) (hint+min o (n-hint))
 else CV (λi=>qf left key arr base (hint-i)) (λb=>b) n (hint+1) λl o=>C4 (qf left key arr base) n (hint+1-min o (hint+1)) (hint-l)):=by kernel_rfl
section
variable {c:SC}
abbrev SB(o:Option Bool):Prop:=∃b,o=some b/\True
abbrev xf(n:Nat)(o:Option Nat):Prop:=∃k,o=some k/\k<=n
theorem Rs{left:Bool}{key:mU}{arr:aQ}{base n i:Nat}(h0:IntKeys arr)(hk:uM key)(hb:base+n<=arr.size)(hi:i<n):So c (qf left key arr base i) SB:=
 (So.elem h0 (dr (pY hi base) hb)).bind λx hx=>So.ite (λa=>So.lt hx.2 hk) λa=>(So.lt hk hx.2).bindS λb a=>So.pure ⟨_,rfl,trivial⟩
theorem I3{f:Nat->SM (Option Bool)}{n lo hi:Nat}(hf: ∀i,i<n->So c (f i) SB)(e:hi<=n):So c (C4 f n lo hi) (xf n):=by
 refine(So.forR (λa s=>s.1=none/\s.2.2<=n) (Q:=λs=>s.1=none/\s.2.2<=n) (dx _) ⟨rfl,e⟩ (λa h=>h) λi s a d=>So.ite (λa=>?_) λg=>?_).bind λs hs=>?_
 ·exact So.pure ⟨rfl,d.2⟩
 ·have hr:s.2.1+(s.2.2-s.2.1)/2<s.2.2:=XA (Nat.div_lt_self (zF (rl.mp g)) (by decide))
  have hm:=dr hr d.2
  exact(hf _ hm).bindS λb a=>So.ite (λa=>So.pure ⟨rfl,d.2⟩) λa=>So.pure ⟨rfl,eP hm⟩
 ·rw[hs.1];exact So.pure ⟨_,rfl,hs.2⟩
theorem Hy{f:Nat->SM (Option Bool)}{g:Bool->Bool}{n m t:Nat}{k:Nat->Nat->SM (Option Nat)}(hf: ∀i,i<m->So c (f i) SB)(hk: ∀l o,So c (k l o) (xf t)):So c (CV f g n m k) (xf t):=by
 refine(So.forR (λa s=>s.1=none) (Q:=λs=>s.1=none) (dx _) rfl (λa h=>h) λi s a hI=>So.ite (λa=>?_) λd=>?_).bind λs hs=>?_
 ·exact So.pure rfl
 ·exact(hf _ (rl.mp d)).bindS λb a=>So.ite (λa=>So.pure rfl) λa=>So.pure rfl
 ·rw[hs];exact hk _ _
theorem r6{left:Bool}{key:mU}{arr:aQ}{base n hint:Nat}(h0:IntKeys arr)(hk:uM key)(hb:base+n<=arr.size)(a:hint<n):So c (oO left key arr base n hint) (xf n):=by
 have hf: ∀i,i<n->So c (qf left key arr base i) SB:=λi hi=>Rs h0 hk hb hi
 rw[OX]
 exact(hf _ a).bindS λb d=>So.ite (λd=>Hy (λi hi=>hf _ (XA hi)) λl o=>I3 hf (aZ (kY (Nat.min_le_right ..) hint) (iK (tO (eP a))))) λd=>Hy (λi hi=>hf _ (d7 (kg _ _) a)) λl o=>I3 hf (aZ (kg _ _) (eP a))
end
noncomputable def mn(a b out:aQ)(ia ib:Nat):aQ:=out++a.extract ia a.size++b.extract ib b.size
noncomputable def te(a b out:aQ)(ia ib:Nat):aQ:=out++b.extract ib b.size++a.extract ia a.size
noncomputable abbrev sZ:=Option aQ×aQ×Nat×Nat×Nat×Nat
noncomputable abbrev pG:=Option aQ×aQ×Nat×Nat×Nat×Nat×Nat
noncomputable abbrev wF:=Option aQ×aQ×Nat×Nat×Nat
noncomputable def G4(a b:aQ)(g:Nat)(s:sZ):SM (ForInStep sZ):=
 fe b s.2.2.2.1>>=λx=>fe a s.2.2.1>>=λy=>lt' x y>>=λo=>g9 o (aH (.done (some (mn a b s.2.1 s.2.2.1 s.2.2.2.1),s.2.1,s.2.2.1,s.2.2.2.1,s.2.2.2.2.1,s.2.2.2.2.2)))
  λw=>if w=true then fe b s.2.2.2.1>>=λz=>
    if(s.2.2.2.1+1==b.size)=true then aH (.done (some (mn a b (s.2.1.push z) s.2.2.1 (s.2.2.2.1+1)),s.2.1.push z,s.2.2.1,s.2.2.2.1+1,0,s.2.2.2.2.2+1))
    else if s.2.2.2.2.2+1≥g then aH (.done (none,s.2.1.push z,s.2.2.1,s.2.2.2.1+1,0,s.2.2.2.2.2+1))else aH (.yield (none,s.2.1.push z,s.2.2.1,s.2.2.2.1+1,0,s.2.2.2.2.2+1))
   else fe a s.2.2.1>>=λz=>
    if(s.2.2.1+1+1==a.size)=true then aH (.done (some (te a b (s.2.1.push z) (s.2.2.1+1) s.2.2.2.1),s.2.1.push z,s.2.2.1+1,s.2.2.2.1,s.2.2.2.2.1+1,0))
    else if s.2.2.2.2.1+1≥g then aH (.done (none,s.2.1.push z,s.2.2.1+1,s.2.2.2.1,s.2.2.2.2.1+1,0))else aH (.yield (none,s.2.1.push z,s.2.2.1+1,s.2.2.2.1,s.2.2.2.2.1+1,0))
noncomputable def Co(a b:aQ)(ia g ac bc:Nat)(out:aQ)(ib:Nat):SM (ForInStep pG):=fe a ia>>=λz=>
 if(ia+1+1==a.size)=true then aH (.done (some (te a b (out.push z) (ia+1) ib),out.push z,ia+1,ib,g,ac,bc))
 else if(decide (ac<7)&&decide (bc<7))=true then aH (.done (none,out.push z,ia+1,ib,g,ac,bc))else aH (.yield (none,out.push z,ia+1,ib,g,ac,bc))
noncomputable def Kg(a b out:aQ)(ia ib g ac bc:Nat):SM (ForInStep pG):=fe a ia>>=λy=>oO true y b ib (b.size-ib) 0>>=λo=>
 g9 o (aH (.done (some (mn a b out ia ib),out,ia,ib,g,ac,bc))) λk=>if k>0 then
  if(ib+k==b.size)=true then aH (.done (some (mn a b (out++b.extract ib (ib+k)) ia (ib+k)),out++b.extract ib (ib+k),ia,ib+k,g,ac,k))else Co a b ia g ac k (out++b.extract ib (ib+k)) (ib+k)
  else Co a b ia g ac k out ib
noncomputable def C3(a b:aQ)(ib g ac bc:Nat)(out:aQ)(ia:Nat):SM (ForInStep pG):=fe b ib>>=λz=>
 if(ib+1==b.size)=true then aH (.done (some (mn a b (out.push z) ia (ib+1)),out.push z,ia,ib+1,g,ac,bc))else Kg a b (out.push z) ia (ib+1) g ac bc
noncomputable def Au(a b out:aQ)(ia ib ac bc g:Nat):SM (ForInStep pG):=uo g>>=λz_=>fe b ib>>=λy=>oO false y a ia (a.size-ia) 0>>=λo=>
 g9 o (aH (.done (some (mn a b out ia ib),out,ia,ib,g,ac,bc))) λk=>if k>0 then
  if(ia+k+1==a.size)=true then aH (.done (some (te a b (out++a.extract ia (ia+k)) (ia+k) ib),out++a.extract ia (ia+k),ia+k,ib,g,k,bc))
  else if(ia+k==a.size)=true then aH (.done (some (mn a b (out++a.extract ia (ia+k)) (ia+k) ib),out++a.extract ia (ia+k),ia+k,ib,g,k,bc))
  else C3 a b ib g k bc (out++a.extract ia (ia+k)) (ia+k)
  else C3 a b ib g k bc out ia
noncomputable def OV(a b:aQ)(s:pG):SM (ForInStep pG):=if s.2.2.2.2.1>1 then Au a b s.2.1 s.2.2.1 s.2.2.2.1 s.2.2.2.2.2.1 s.2.2.2.2.2.2 (s.2.2.2.2.1-1)else Au a b s.2.1 s.2.2.1 s.2.2.2.1 s.2.2.2.2.2.1 s.2.2.2.2.2.2 s.2.2.2.2.1
noncomputable def V0(a b:aQ)(g:Nat)(s:sZ):SM (ForInStep wF):=oe s.1 (liftM (og "list.sort.gallop")>>=λc=>
  forIn [0:a.size+b.size] ((none,s.2.1,s.2.2.1,s.2.2.2.1,g+1,s.2.2.2.2.1,s.2.2.2.2.2):pG) (λc s=>OV a b s)>>=λs=>
   oe s.1 (uo (s.2.2.2.2.1+1)>>=λc=>aH (.yield (none,s.2.1,s.2.2.1,s.2.2.2.1,s.2.2.2.2.1+1))) λr=>aH (.done (some r,s.2.1,s.2.2.1,s.2.2.2.1,s.2.2.2.2.1)))
 λr=>aH (.done (some r,s.2.1,s.2.2.1,s.2.2.2.1,g))
noncomputable def Qp(a b:aQ)(s:wF):SM (ForInStep wF):=forIn [0:a.size+b.size] ((none,s.2.1,s.2.2.1,s.2.2.2.1,0,0):sZ) (λz_ t=>G4 a b s.2.2.2.2 t)>>=V0 a b s.2.2.2.2
theorem QK(a b:aQ):BQ a b=(liftM (og "list.sort.merge-lo")>>=λc=>fe b 0>>=λz=>
 if(1==b.size)=true then aH (mn a b #[z] 0 1)else if(0+1==a.size)=true then aH (te a b #[z] 0 1)else
 pW>>=λs=>forIn [0:a.size+b.size] ((none,#[z],0,1,gallopOf s):wF) (λc s=>Qp a b s)>>=λs=>oe s.1 (liftM (Mo "internal:list.sort.merge-bound")) λr=>aH r):=by kernel_rfl
noncomputable def lF(a b:aQ)(na nb:Nat)(out:aQ):aQ:=a.extract 0 na++b.extract 0 nb++out.reverse
noncomputable def ta(a b:aQ)(na nb:Nat)(out:aQ):aQ:=b.extract 0 nb++a.extract 0 na++out.reverse
noncomputable abbrev rU:=Option aQ×Nat×Nat×aQ×Nat×Nat
noncomputable abbrev oJ:=Option aQ×Nat×Nat×aQ×Nat×Nat×Nat
noncomputable abbrev yq:=Option aQ×Nat×Nat×aQ×Nat
noncomputable def HE(a b:aQ)(g:Nat)(s:rU):SM (ForInStep rU):=
 fe b (s.2.2.1-1)>>=λx=>fe a (s.2.1-1)>>=λy=>lt' x y>>=λo=>g9 o (aH (.done (some (lF a b s.2.1 s.2.2.1 s.2.2.2.1),s.2.1,s.2.2.1,s.2.2.2.1,s.2.2.2.2.1,s.2.2.2.2.2)))
  λw=>if w=true then fe a (s.2.1-1)>>=λz=>
    if(s.2.1-1==0)=true then aH (.done (some (lF a b (s.2.1-1) s.2.2.1 (s.2.2.2.1.push z)),s.2.1-1,s.2.2.1,s.2.2.2.1.push z,s.2.2.2.2.1+1,0))
    else if s.2.2.2.2.1+1≥g then aH (.done (none,s.2.1-1,s.2.2.1,s.2.2.2.1.push z,s.2.2.2.2.1+1,0))else aH (.yield (none,s.2.1-1,s.2.2.1,s.2.2.2.1.push z,s.2.2.2.2.1+1,0))
   else fe b (s.2.2.1-1)>>=λz=>
    if(s.2.2.1-1==1)=true then aH (.done (some (ta a b s.2.1 (s.2.2.1-1) (s.2.2.2.1.push z)),s.2.1,s.2.2.1-1,s.2.2.2.1.push z,0,s.2.2.2.2.2+1))
    else if s.2.2.2.2.2+1≥g then aH (.done (none,s.2.1,s.2.2.1-1,s.2.2.2.1.push z,0,s.2.2.2.2.2+1))else aH (.yield (none,s.2.1,s.2.2.1-1,s.2.2.2.1.push z,0,s.2.2.2.2.2+1))
noncomputable def Bj(a b:aQ)(na g ac bc nb:Nat)(out:aQ):SM (ForInStep oJ):=fe a (na-1)>>=λz=>
 if(na-1==0)=true then aH (.done (some (lF a b (na-1) nb (out.push z)),na-1,nb,out.push z,g,ac,bc))
 else if(decide (ac<7)&&decide (bc<7))=true then aH (.done (none,na-1,nb,out.push z,g,ac,bc))else aH (.yield (none,na-1,nb,out.push z,g,ac,bc))
noncomputable def KD(a b:aQ)(na nb:Nat)(out:aQ)(g ac bc:Nat):SM (ForInStep oJ):=fe a (na-1)>>=λy=>oO true y b 0 nb (nb-1)>>=λo=>
 g9 o (aH (.done (some (lF a b na nb out),na,nb,out,g,ac,bc))) λt=>if nb-t>0 then
  if(t==1)=true then aH (.done (some (ta a b na t (out++(b.extract t nb).reverse)),na,t,out++(b.extract t nb).reverse,g,ac,nb-t))
  else if(t==0)=true then aH (.done (some (lF a b na t (out++(b.extract t nb).reverse)),na,t,out++(b.extract t nb).reverse,g,ac,nb-t))
  else Bj a b na g ac (nb-t) t (out++(b.extract t nb).reverse)
  else Bj a b na g ac (nb-t) nb out
noncomputable def Bf(a b:aQ)(nb g ac bc na:Nat)(out:aQ):SM (ForInStep oJ):=fe b (nb-1)>>=λz=>
 if(nb-1==1)=true then aH (.done (some (ta a b na (nb-1) (out.push z)),na,nb-1,out.push z,g,ac,bc))else KD a b na (nb-1) (out.push z) g ac bc
noncomputable def Cm(a b:aQ)(na nb:Nat)(out:aQ)(ac bc g:Nat):SM (ForInStep oJ):=uo g>>=λz_=>fe b (nb-1)>>=λy=>oO false y a 0 na (na-1)>>=λo=>
 g9 o (aH (.done (some (lF a b na nb out),na,nb,out,g,ac,bc))) λt=>if na-t>0 then
  if(t==0)=true then aH (.done (some (lF a b t nb (out++(a.extract t na).reverse)),t,nb,out++(a.extract t na).reverse,g,na-t,bc))
  else Bf a b nb g (na-t) bc t (out++(a.extract t na).reverse)
  else Bf a b nb g (na-t) bc na out
noncomputable def O9(a b:aQ)(s:oJ):SM (ForInStep oJ):=if s.2.2.2.2.1>1 then Cm a b s.2.1 s.2.2.1 s.2.2.2.1 s.2.2.2.2.2.1 s.2.2.2.2.2.2 (s.2.2.2.2.1-1)else Cm a b s.2.1 s.2.2.1 s.2.2.2.1 s.2.2.2.2.2.1 s.2.2.2.2.2.2 s.2.2.2.2.1
noncomputable def TM(a b:aQ)(g:Nat)(s:rU):SM (ForInStep yq):=oe s.1 (liftM (og "list.sort.gallop")>>=λc=>
  forIn [0:a.size+b.size] ((none,s.2.1,s.2.2.1,s.2.2.2.1,g+1,s.2.2.2.2.1,s.2.2.2.2.2):oJ) (λc s=>O9 a b s)>>=λs=>
   oe s.1 (uo (s.2.2.2.2.1+1)>>=λc=>aH (.yield (none,s.2.1,s.2.2.1,s.2.2.2.1,s.2.2.2.2.1+1))) λr=>aH (.done (some r,s.2.1,s.2.2.1,s.2.2.2.1,s.2.2.2.2.1)))
 λr=>aH (.done (some r,s.2.1,s.2.2.1,s.2.2.2.1,g))
noncomputable def Oc(a b:aQ)(s:yq):SM (ForInStep yq):=forIn [0:a.size+b.size] ((none,s.2.1,s.2.2.1,s.2.2.2.1,0,0):rU) (λz_ t=>HE a b s.2.2.2.2 t)>>=TM a b s.2.2.2.2
theorem Wt(a b:aQ):BD a b=(liftM (og "list.sort.merge-hi")>>=λc=>fe a (a.size-1)>>=λz=>
 if(a.size-1==0)=true then aH (lF a b (a.size-1) b.size #[z])else if(b.size==1)=true then aH (ta a b (a.size-1) b.size #[z])else
 pW>>=λs=>forIn [0:a.size+b.size] ((none,a.size-1,b.size,#[z],gallopOf s):yq) (λc s=>Oc a b s)>>=λs=>oe s.1 (liftM (Mo "internal:list.sort.merge-bound")) λr=>aH r):=by kernel_rfl
section
variable {c:SC} {a b out r:aQ} {ia ib na nb n i k t g ac bc:Nat} {z:mU}
def Pm(a b r:aQ):Prop:=r.toList.Perm (a.toList++b.toList)
theorem qE{κ:Type}{o m X Y X2:List κ}(h:o.Perm (X++Y))(hx:X2.Perm (X++m)):(o++m).Perm (X2++Y):=
 (h.append_right m).trans (((dR X Y m).symm▸(dR X m Y▸(gO.append_left X):(X++(Y++m)).Perm (X++m++Y)):(X++Y++m).Perm (X++m++Y)).trans (hx.symm.append_right Y))
theorem qH{κ:Type}{o m X Y a:List κ}(h:o.Perm (X++Y))(b:a.Perm (Y++m)):(o++m).Perm (X++a):=
 (h.append_right m).trans ((dR X Y m).symm▸(b.symm.append_left X))
theorem oU(a:aQ)(i j:Nat):(a.extract i j).toList=(a.toList.drop i).take (j-i):=Array.toList_extract
theorem AE{z:mU}{i:Nat}(h:a[i]? =some z):(a.toList.drop i).take 1=[z]:=by
 rw[← Fl]at h
 simp only[List.take_one,List.head?_drop,h];rfl
def eV(a b out:aQ)(ia ib:Nat):Prop:=out.toList.Perm (a.toList.take ia++b.toList.take ib)
theorem eV.A(h:eV a b out ia ib):eV a b (out++a.extract ia (ia+k)) (ia+k) ib:=by
 unfold eV;simp only[lY,oU,tR,zG];exact qE h (tQ _)
theorem eV.B(h:eV a b out ia ib):eV a b (out++b.extract ib (ib+k)) ia (ib+k):=by
 unfold eV;simp only[lY,oU,tR,zG];exact qH h (tQ _)
theorem eV.pA(h:eV a b out ia ib)(hz:a[ia]? =some z):eV a b (out.push z) (ia+1) ib:=by
 unfold eV;simp only[zH, ← AE hz,zG];exact qE h (tQ _)
theorem eV.pB(h:eV a b out ia ib)(hz:b[ib]? =some z):eV a b (out.push z) ia (ib+1):=by
 unfold eV;simp only[zH, ← AE hz,zG];exact qH h (tQ _)
theorem xV(a:aQ)(i:Nat):a.toList.Perm (a.toList.take i++(a.extract i a.size).toList):=by
 rw[oU,e9 (l:=a.toList.drop i) (by rw[wi];exact cR _),iJ]
theorem eV.D(h:eV a b out ia ib):Pm a b (mn a b out ia ib):=by
 unfold Pm mn;rw[lY,lY];exact qH (qE h (xV a ia)) (xV b ib)
theorem eV.L(h:eV a b out ia ib):Pm a b (te a b out ia ib):=by
 unfold Pm te;simp only[lY,lY];exact qE (qH h (xV b ib)) (xV a ia)
structure jI(a b:aQ)(n:Nat)(out:aQ)(ia ib:Nat):Prop where
 ha:ia+1<a.size
 hb:ib<b.size
 hn:n<=ia+ib
 hp:eV a b out ia ib
def xr(a b:aQ)(n:Nat)(r:Option aQ)(out:aQ)(ia ib:Nat):Prop:=oe r (jI a b n out ia ib) (Pm a b)
abbrev WI(a b:aQ)(n m:Nat):ForInStep sZ->Prop:=sQ (λt=>xr a b n t.1 t.2.1 t.2.2.1 t.2.2.2.1) λt=>t.1=none/\jI a b m t.2.1 t.2.2.1 t.2.2.2.1
abbrev xH(a b:aQ)(n:Nat):ForInStep pG->Prop:=sQ (λt=>xr a b n t.1 t.2.1 t.2.2.1 t.2.2.2.1) λt=>t.1=none/\jI a b n t.2.1 t.2.2.1 t.2.2.2.1
theorem mc{x y:Nat}(h:¬(x==y)=true):x≠y:=λe=>h (e▸beq_self_eq_true x)
theorem me{x y:Nat}(h:¬(x==y)=true)(h2:x<=y):x<y:=Fn h2 (mc h)
theorem Cd{n x y:Nat}(h:n<=x+y):n+1<=x+1+y:=rm x 1 y▸je h
theorem Wl(h1:IntKeys a)(h2:IntKeys b)(s:sZ)(h:jI a b (n+i) s.2.1 s.2.2.1 s.2.2.2.1):So c (G4 a b g s) (WI a b (n+1) (n+(i+1))):=by
 refine So.cmp h2 h1 h.hb (kZ h.ha) λw=>So.ite (λd=>(So.elem h2 h.hb).bind λz hz=>?_) λd=>(So.elem h1 (kZ h.ha)).bind λz hz=>?_
 ·refine So.ite (λd=>So.pure (h.hp.pB hz.1).D) λe=>?_
  have hb:=me e h.hb
  exact So.ite (λd=>So.pure ⟨h.ha,hb,aZ (je (ij n i)) (je h.hn),h.hp.pB hz.1⟩) λd=>So.pure ⟨rfl,h.ha,hb,je h.hn,h.hp.pB hz.1⟩
 ·refine So.ite (λd=>So.pure (h.hp.pA hz.1).L) λe=>?_
  have ha:=me e h.ha
  exact So.ite (λd=>So.pure ⟨ha,h.hb,aZ (je (ij n i)) (Cd h.hn),h.hp.pA hz.1⟩) λd=>So.pure ⟨rfl,ha,h.hb,Cd h.hn,h.hp.pA hz.1⟩
theorem Hn(h1:IntKeys a)(h:jI a b n out ia ib):So c (Co a b ia g ac bc out ib) (xH a b n):=by
 refine(So.elem h1 (kZ h.ha)).bind λz hz=>So.ite (λd=>So.pure (h.hp.pA hz.1).L) λf=>?_
 have e:jI a b n (out.push z) (ia+1) ib:=⟨me f h.ha,h.hb,Nat.le_of_succ_le (Cd h.hn),h.hp.pA hz.1⟩
 exact So.ite (λd=>So.pure e) λd=>So.pure ⟨rfl,e⟩
theorem Ws(h1:IntKeys a)(h2:IntKeys b)(h:jI a b n out ia ib):So c (Kg a b out ia ib g ac bc) (xH a b n):=by
 refine(So.elem h1 (kZ h.ha)).bind λy e=>(r6 h2 e.2 (iK (tO (eP h.hb))) (zF h.hb)).bindS λk hk=>?_
 refine So.ite (λd=>So.ite (λd=>So.pure h.hp.B.D) λf=>?_) λd=>Hn h1 h
 exact Hn h1 ⟨h.ha,me f (XB (eP h.hb) hk),aZ h.hn (kY (ij ib k) ia),h.hp.B⟩
theorem JQ(h1:IntKeys a)(h2:IntKeys b)(h:jI a b n out ia ib):So c (C3 a b ib g ac bc out ia) (xH a b n):=by
 refine(So.elem h2 h.hb).bind λz hz=>So.ite (λz_=>So.pure (h.hp.pB hz.1).D) λd=>?_
 exact Ws h1 h2 ⟨h.ha,me d h.hb,zI h.hn,h.hp.pB hz.1⟩
theorem HO(h1:IntKeys a)(h2:IntKeys b)(h:jI a b n out ia ib):So c (Au a b out ia ib ac bc g) (xH a b n):=by
 have ha:=kZ h.ha
 refine So.setMin.bind λd d=>(So.elem h2 h.hb).bind λy e=>(r6 h1 e.2 (iK (tO (eP ha))) (zF ha)).bindS λk hk=>?_
 refine So.ite (λd=>So.ite (λd=>So.pure h.hp.A.L) λf=>So.ite (λd=>So.pure h.hp.A.D) λi=>?_) λd=>JQ h1 h2 h
 exact JQ h1 h2 ⟨me f (me i (XB (eP ha) hk)),h.hb,aZ h.hn (tS (ij ia k) ib),h.hp.A⟩
theorem TL(h1:IntKeys a)(h2:IntKeys b)(ha:0<a.size)(hb:0<b.size):So c (BQ a b) (Pm a b):=by
 rw[QK]
 refine So.rule.bind λe e=>(So.elem h2 hb).bind λz hz=>?_
 have hp:eV a b #[z] 0 1:=eV.pB (out:=#[]) (tQ _) hz.1
 refine So.ite (λe=>So.pure hp.D) λf=>So.ite (λe=>So.pure hp.L) λk=>So.get.bind λst e=>?_
 refine(So.forR (λi s=>s.1=none/\jI a b i s.2.1 s.2.2.1 s.2.2.2.1) (Q:=λs=>∃r,s.1=some r/\Pm a b r) (dx _) ⟨rfl,me k ha,me f hb,dx _,hp⟩ (λs h=>?_) λi s e h=>?_).bind λs hs=>?_
 ·exact absurd h.2.hn (rl.mpr (zJ (kZ h.2.ha) h.2.hb))
 ·refine(So.forR (λj t=>t.1=none/\jI a b (i+j) t.2.1 t.2.2.1 t.2.2.2.1) (Q:=λt=>xr a b (i+1) t.1 t.2.1 t.2.2.1 t.2.2.2.1) (dx _) ⟨rfl,h.2⟩ (λt d=>?_) λj t e d=>Wl h1 h2 t d.2).bind λt d=>?_
  ·rw[d.1];exact⟨d.2.ha,d.2.hb,aZ (kY (XC ha) i) d.2.hn,d.2.hp⟩
  ·obtain⟨r,out,ia,ib,ac,bc⟩:=t
   induction r with
   |some r=>exact So.pure ⟨r,rfl,d⟩
   |none=>
    replace d:jI a b (i+1) out ia ib:=d
    refine So.rule.bind λe e=>(So.forR (λe t=>t.1=none/\jI a b (i+1) t.2.1 t.2.2.1 t.2.2.2.1) (Q:=λt=>xr a b (i+1) t.1 t.2.1 t.2.2.1 t.2.2.2.1) (dx _) ⟨rfl,d⟩ (λt d=>?_) λj t e d=>?_).bind λt d=>?_
    ·rw[d.1];exact d.2
    ·exact So.ite (λe=>HO h1 h2 d.2) λe=>HO h1 h2 d.2
    ·obtain⟨r,out,ia,ib,g,ac,bc⟩:=t
     induction r with
     |some r=>exact So.pure ⟨r,rfl,d⟩
     |none=>exact So.setMin.bind λe e=>So.pure ⟨rfl,d⟩
 ·obtain⟨r,hr,hq⟩:=hs
  rw[hr];exact So.pure hq
def eL(a b:aQ)(na nb:Nat)(out:aQ):Prop:=out.toList.Perm (a.toList.drop na++b.toList.drop nb)
theorem HA(a:aQ)(h:t<=n):(a.toList.drop t).Perm (a.toList.drop n++(a.extract t n).reverse.toList):=by
 have e:(a.toList.drop t).drop (n-t)=a.toList.drop n:=by rw[Fo,tO h]
 simp only[XD,oU, ← e]
 exact(zK (iJ (n-t) _).symm).trans (gO.trans ((E5 _).symm.append_left _))
theorem HR(a:aQ)(h0:0<n)(h:a[n-1]? =some z):(a.toList.drop (n-1)).Perm (a.toList.drop n++[z]):=by
 have e:(a.toList.drop (n-1)).drop 1=a.toList.drop n:=by rw[Fo,wk h0]
 simp only[← e, ← AE h]
 exact(zK (iJ 1 _).symm).trans gO
theorem eL.A(h:eL a b na nb out)(c:t<=na):eL a b t nb (out++(a.extract t na).reverse):=by
 unfold eL;simp only[lY];exact qE h (HA a c)
theorem eL.B(h:eL a b na nb out)(c:t<=nb):eL a b na t (out++(b.extract t nb).reverse):=by
 unfold eL;simp only[lY];exact qH h (HA b c)
theorem eL.pA(h:eL a b na nb out)(h0:0<na)(hz:a[na-1]? =some z):eL a b (na-1) nb (out.push z):=by
 unfold eL;rw[zH];exact qE h (HR a h0 hz)
theorem eL.pB(h:eL a b na nb out)(h0:0<nb)(hz:b[nb-1]? =some z):eL a b na (nb-1) (out.push z):=by
 unfold eL;simp only[zH];exact qH h (HR b h0 hz)
theorem H9(a:aQ)(i:Nat):(a.extract 0 i).toList=a.toList.take i:=oU a 0 i
theorem eL.D(h:eL a b na nb out):Pm a b (lF a b na nb out):=by
 unfold Pm lF;simp only[lY,lY,XD,H9,H9]
 refine((E5 _).append_left _).trans (gO.trans ?_)
 rw[← dR]
 refine qH (qE h ?_) ?_
 ·exact(zK (iJ na _).symm).trans gO
 ·exact(zK (iJ nb _).symm).trans gO
theorem eL.F(h:eL a b na nb out):Pm a b (ta a b na nb out):=by
 have :=h.D
 unfold Pm lF at this;unfold Pm ta
 rw[lY,lY]at this ⊢
 exact(gO.append_right _).trans this
structure eG(a b:aQ)(n na nb:Nat)(out:aQ):Prop where
 ha0:0<na
 ha:na<=a.size
 hb0:1<nb
 hb:nb<=b.size
 hn:n+(na+nb)<=a.size+b.size
 hp:eL a b na nb out
def yu(a b:aQ)(n:Nat)(r:Option aQ)(na nb:Nat)(out:aQ):Prop:=oe r (eG a b n na nb out) (Pm a b)
abbrev Q2(a b:aQ)(n m:Nat):ForInStep rU->Prop:=sQ (λt=>yu a b n t.1 t.2.1 t.2.2.1 t.2.2.2.1) λt=>t.1=none/\eG a b m t.2.1 t.2.2.1 t.2.2.2.1
abbrev wX(a b:aQ)(n:Nat):ForInStep oJ->Prop:=sQ (λt=>yu a b n t.1 t.2.1 t.2.2.1 t.2.2.2.1) λt=>t.1=none/\eG a b n t.2.1 t.2.2.1 t.2.2.2.1
theorem eG.la(h:eG a b n na nb out):na-1<a.size:=dr (rn h.ha0 pZ) h.ha
theorem eG.lb(h:eG a b n na nb out):nb-1<b.size:=dr (rn (kZ h.hb0) pZ) h.hb
theorem Ks{n na nb:Nat}(h:0<na):n+1+(na-1+nb)=n+(na+nb):=by rw[mT n 1, ← mT 1,rp 1 (na-1),wk h]
theorem PQ{n na nb:Nat}(h:0<nb):n+1+(na+(nb-1))=n+(na+nb):=by rw[rp na (nb-1),Ks h,rp nb na]
theorem eG.A(h:eG a b n na nb out)(hz:a[na-1]? =some z)(c:¬(na-1==0)=true):eG a b (n+1) (na-1) nb (out.push z):=
 ⟨wl (mc c),eP h.la,h.hb0,h.hb,aZ (iK (Ks h.ha0)) h.hn,h.hp.pA h.ha0 hz⟩
theorem eG.B(h:eG a b n na nb out)(hz:b[nb-1]? =some z)(c:¬(nb-1==1)=true):eG a b (n+1) na (nb-1) (out.push z):=
 ⟨h.ha0,h.ha,Fn (Nat.le_sub_one_of_lt h.hb0) (ot (mc c)),eP h.lb,aZ (iK (PQ (kZ h.hb0))) h.hn,h.hp.pB (kZ h.hb0) hz⟩
theorem eG.le(h:eG a b n na nb out)(hk:k<=n):eG a b k na nb out:=⟨h.ha0,h.ha,h.hb0,h.hb,aZ (tS hk _) h.hn,h.hp⟩
theorem Nl(h1:IntKeys a)(h2:IntKeys b)(s:rU)(h:eG a b (n+i) s.2.1 s.2.2.1 s.2.2.2.1):So c (HE a b g s) (Q2 a b (n+1) (n+(i+1))):=by
 refine So.cmp h2 h1 h.lb h.la λw=>So.ite (λd=>(So.elem h1 h.la).bind λz hz=>?_) λd=>(So.elem h2 h.lb).bind λz hz=>?_
 ·refine So.ite (λd=>So.pure (h.hp.pA h.ha0 hz.1).D) λe=>?_
  exact So.ite (λd=>So.pure ((h.A hz.1 e).le (je (ij n i)))) λd=>So.pure ⟨rfl,h.A hz.1 e⟩
 ·refine So.ite (λd=>So.pure (h.hp.pB (kZ h.hb0) hz.1).F) λe=>?_
  exact So.ite (λd=>So.pure ((h.B hz.1 e).le (je (ij n i)))) λd=>So.pure ⟨rfl,h.B hz.1 e⟩
theorem Ku(h1:IntKeys a)(h:eG a b n na nb out):So c (Bj a b na g ac bc nb out) (wX a b n):=by
 refine(So.elem h1 h.la).bind λz hz=>So.ite (λd=>So.pure (h.hp.pA h.ha0 hz.1).D) λf=>?_
 have e:=(h.A hz.1 f).le (wd n)
 exact So.ite (λd=>So.pure e) λd=>So.pure ⟨rfl,e⟩
theorem UL(h1:IntKeys a)(h2:IntKeys b)(h:eG a b n na nb out):So c (KD a b na nb out g ac bc) (wX a b n):=by
 refine(So.elem h1 h.la).bind λy f=>(r6 h2 f.2 ((rk nb).symm▸h.hb) (rn (kZ h.hb0) pZ)).bindS λt d=>?_
 refine So.ite (λe=>So.ite (λe=>So.pure (h.hp.B d).F) λi=>So.ite (λe=>So.pure (h.hp.B d).D) λj=>?_) λe=>Ku h1 h
 exact Ku h1 ⟨h.ha0,h.ha,Fn (wl (mc j)) (ot (mc i)),aZ d h.hb,aZ (kY (kY d na) n) h.hn,h.hp.B d⟩
theorem Hz(h1:IntKeys a)(h2:IntKeys b)(h:eG a b n na nb out):So c (Bf a b nb g ac bc na out) (wX a b n):=by
 refine(So.elem h2 h.lb).bind λz hz=>So.ite (λz_=>So.pure (h.hp.pB (kZ h.hb0) hz.1).F) λd=>?_
 exact UL h1 h2 ((h.B hz.1 d).le (wd n))
theorem I0(h1:IntKeys a)(h2:IntKeys b)(h:eG a b n na nb out):So c (Cm a b na nb out ac bc g) (wX a b n):=by
 refine So.setMin.bind λd d=>(So.elem h2 h.lb).bind λy f=>(r6 h1 f.2 ((rk na).symm▸h.ha) (rn h.ha0 pZ)).bindS λt e=>?_
 refine So.ite (λd=>So.ite (λd=>So.pure (h.hp.A e).D) λi=>?_) λd=>Hz h1 h2 h
 exact Hz h1 h2 ⟨wl (mc i),aZ e h.ha,h.hb0,h.hb,aZ (kY (tS e nb) n) h.hn,h.hp.A e⟩
theorem Hr(a:aQ):a.toList.drop a.size=[]:=Mm (cR _)
theorem NL(h1:IntKeys a)(h2:IntKeys b)(ha:0<a.size)(hb:0<b.size):So c (BD a b) (Pm a b):=by
 rw[Wt]
 refine So.rule.bind λe e=>(So.elem h1 (rn ha pZ)).bind λz hz=>?_
 have hp:eL a b (a.size-1) b.size #[z]:=eL.pA (out:=#[]) (by unfold eL;simp only[Hr,Hr];exact tQ _) ha hz.1
 refine So.ite (λe=>So.pure hp.D) λk=>So.ite (λe=>So.pure hp.F) λf=>So.get.bind λst e=>?_
 refine(So.forR (λi s=>s.1=none/\eG a b i s.2.1 s.2.2.1 s.2.2.2.1) (Q:=λs=>∃r,s.1=some r/\Pm a b r) (dx _) ⟨rfl,wl (mc k),kg _ _,Fn hb (ot (mc f)),cR _,(rk _).symm▸tS (kg _ _) _,hp⟩ (λs h=>?_) λi s e h=>?_).bind λs hs=>?_
 ·exact absurd h.2.hn (rl.mpr (Fp (Nat.add_pos_left h.2.ha0 _)))
 ·refine(So.forR (λj t=>t.1=none/\eG a b (i+j) t.2.1 t.2.2.1 t.2.2.2.1) (Q:=λt=>yu a b (i+1) t.1 t.2.1 t.2.2.1 t.2.2.2.1) (dx _) ⟨rfl,h.2⟩ (λt d=>?_) λj t e d=>Nl h1 h2 t d.2).bind λt d=>?_
  ·rw[d.1];exact d.2.le (kY (XC ha) i)
  ·obtain⟨r,na,nb,out,ac,bc⟩:=t
   induction r with
   |some r=>exact So.pure ⟨r,rfl,d⟩
   |none=>
    replace d:eG a b (i+1) na nb out:=d
    refine So.rule.bind λe e=>(So.forR (λe t=>t.1=none/\eG a b (i+1) t.2.1 t.2.2.1 t.2.2.2.1) (Q:=λt=>yu a b (i+1) t.1 t.2.1 t.2.2.1 t.2.2.2.1) (dx _) ⟨rfl,d⟩ (λt d=>?_) λj t e d=>?_).bind λt d=>?_
    ·rw[d.1];exact d.2
    ·exact So.ite (λe=>I0 h1 h2 d.2) λe=>I0 h1 h2 d.2
    ·obtain⟨r,na,nb,out,g,ac,bc⟩:=t
     induction r with
     |some r=>exact So.pure ⟨r,rfl,d⟩
     |none=>exact So.setMin.bind λe e=>So.pure ⟨rfl,d⟩
 ·obtain⟨r,hr,hq⟩:=hs
  rw[hr];exact So.pure hq
end
noncomputable def CN(sa:Nat)(m:aQ):SM Bool:=modify (λs=>setArr s (m.toList.zipIdx.foldl (λa x=>a.setIfInBounds (sa+x.2) x.1) (gQ s)))>>=λz_=>pW>>=λs=>aH (wj s).isNone
noncomputable def DA(X:aQ)(sa na a nb:Nat):SM Bool:=if(na==0)=true then aH true else fe X (sa+na-1)>>=λy=>oO true y X a nb (nb-1)>>=λo=>g9 o (aH false) λnb=>
 if(nb==0)=true then aH true else if na<=nb then BQ (X.extract sa a) (X.extract a (a+nb))>>=λm=>CN sa m else BD (X.extract sa a) (X.extract a (a+nb))>>=λm=>CN sa m
noncomputable def Ox(X:aQ)(sa na a nb:Nat):SM Bool:=fe X a>>=λy=>oO false y X sa na 0>>=λo=>g9 o (aH false) λk=>DA X (sa+k) (na-k) a nb
theorem Ri(i:Nat):zL i=(pW>>=λs=>match((c9 s)[i]?,(c9 s)[i+1]?)with
 |(some (sa,na,power),some (a,nb,_))=>MonadStateOf.set (Fq s (((c9 s).setIfInBounds i (sa,na+nb,power)).eraseIdxIfInBounds (i+1)))>>=λz_=>Ox (gQ s) sa na a nb
 |_=>liftM (Mo "internal:list.sort.pending")):=by kernel_rfl
def Ch(l:List (Nat×Nat×Nat)):Nat->Nat->Prop:=List.rec (λa b=>a=b) (λx z_ c a b=>x.1=a/\0<x.2.1/\c (a+x.2.1) b) l
theorem Kq: ∀{l:List (Nat×Nat×Nat)} {a b:Nat},Ch l a b->a<=b
 | [],_,_,h=>iK h
 |_::_,_,_,h=>aZ (ij _ _) (Kq h.2.2)
theorem Ig: ∀{l:List (Nat×Nat×Nat)} {a b:Nat},Ch l a b->∀n q,0<n->Ch (l++[(b,n,q)]) a (b+n)
 | [],_,_,h,n,q,hn=>⟨h.symm,hn,h▸rfl⟩
 |_::_,_,_,h,n,q,hn=>⟨h.1,h.2.1,Ig h.2.2 n q hn⟩
theorem JR(q:Nat): ∀{l:List (Nat×Nat×Nat)} {i a b:Nat},Ch l a b->Ch (l.modify i λx=>(x.1,x.2.1,q)) a b
 | [],0,_,_,h=>h
 | [],_+1,_,_,h=>h
 |_::_,0,_,_,h=>h
 |_::_,_+1,_,_,h=>⟨h.1,h.2.1,JR q h.2.2⟩
structure O6(l:List (Nat×Nat×Nat))(i a b sa na pw nb tr:Nat):Prop where
 x:l[i]? =some (sa,na,pw)
 y:l[i+1]? =some (sa+na,nb,tr)
 pa:0<na
 pb:0<nb
 le:sa+na+nb<=b
 m:Ch ((l.set i (sa,na+nb,pw)).eraseIdx (i+1)) a b
theorem WM{l:List (Nat×Nat×Nat)}: ∀{i a b:Nat},Ch l a b->i+1<l.length->∃sa na pw nb tr,O6 l i a b sa na pw nb tr:=by
 induction l with
 |nil=>exact λz_ h=>absurd h (Nat.not_lt_zero _)
 |cons x l c=>
  intro i a b h hi
  cases i with
  |succ i=>
   obtain⟨sa,na,pw,nb,tr,h2⟩:=c h.2.2 (XE hi)
   exact⟨sa,na,pw,nb,tr,h2.x,h2.y,h2.pa,h2.pb,h2.le,h.1,h.2.1,h2.m⟩
  |zero=>
   cases l with
   |nil=>exact absurd hi (jY 1)
   |cons y l=>
    obtain⟨e,h1,e2,h2,h3⟩:=h
    exact⟨x.1,x.2.1,x.2.2,y.2.1,y.2.2,rfl,congrArg (λz=>some (z,y.2)) (e2.trans (congrArg (· +_) e.symm)),h1,h2,e▸Kq h3,e,dr h1 (ij _ _),mT a x.2.1 y.2.1▸h3⟩
theorem SW(sa:Nat)(m:List mU): ∀(k:Nat) (X:aQ),sa+k+m.length<=X.size->
  ((m.zipIdx k).foldl (λa x=>a.setIfInBounds (sa+x.2) x.1) X).toList=X.toList.take (sa+k)++m++X.toList.drop (sa+k+m.length):=by
 induction m with
 |nil=>exact λk X z_=>by rw[ou];exact(iJ (sa+k) X.toList).symm
 |cons y m b=>
  intro k X h
  have hk:sa+k<X.toList.length:=dr (Fp (zM m.length)) h
  rw[List.zipIdx_cons,wm,b (k+1) _ (by rw[Array.size_setIfInBounds];exact aZ (iK (rm (sa+k) 1 m.length)) h),XF,List.drop_set_of_lt (show sa+k<sa+(k+1)+m.length from dr (lU (sa+k)) (ij _ _)),
   ← mT,gS,List.take_set_of_le (cR _),List.getElem?_set_self hk,dR (X.toList.take (sa+k))]
  exact congrArg (λn=>_++wn n _) (rm (sa+k) 1 m.length)
theorem Qj{X m:aQ}{sa na nb:Nat}(h:sa+na+nb<=X.size)(hm:Pm (X.extract sa (sa+na)) (X.extract (sa+na) (sa+na+nb)) m):
  (m.toList.zipIdx.foldl (λa x=>a.setIfInBounds (sa+x.2) x.1) X).Perm X:=by
 have e:m.toList.Perm ((X.toList.drop sa).take (na+nb)):=by
  unfold Pm at hm
  rw[oU,oU,tR,tR, ← Fo, ← zG]at hm
  exact hm
 have hl:m.toList.length=na+nb:=e.length_eq.trans ((kX ..).trans (Fh (by rw[wi,XG];exact XH (by rw[rp, ← mT];exact h))))
 rw[Fs,SW sa _ 0 X (by rw[hl];exact mT sa na nb▸h),hl]
 refine((e.append_left _).append_right _).trans (zK ?_)
 rw[Mp,dR, ← Fo,iJ,iJ]
structure Wk(a0:aQ)(lo:Nat)(st:ig):Prop where
 kind:kindOf st=oneType'
 failed:wj st=none
 arr:(gQ st).Perm a0
 ch:Ch (c9 st).toList 0 lo
section
variable {c:SC} {a0 X:aQ} {lo n k i sa na nb:Nat} {p:AP} {st:ig}
abbrev f6(c:SC){α:Type}(m:SM α)(Q:α->ig->Prop)(st:ig):Prop:=wpS (lS c.prog c.w) c.A c.E c.s m Q st
abbrev uy(a0:aQ)(lo:Nat)(r:Bool)(st:ig):Prop:=r=true/\Wk a0 lo st
theorem So.use{α β:Type}{m:SM α}{f:α->SM β}{R:α->Prop}{Q:β->ig->Prop}(h:So c m R)(k:Kp c.R p st)(g: ∀a b,R a->Kp c.R p b->f6 c (f a) Q b):f6 c (m>>=f) Q st:=
 gR (pV (h p st k) λa b h'=>g a b h'.2 h'.1)
theorem WO{x:ig}{Q:PUnit->ig->Prop}(h:Q ⟨⟩ x):f6 c (MonadStateOf.set x) Q st:=dq ⟨rfl,h⟩
theorem qo{α:Type}{q:Prop} [Decidable q]{m n:SM α}{Q:α->ig->Prop}(h1:q->f6 c m Q st)(h2:¬q->f6 c n Q st):f6 c (if q then m else n) Q st:=by
 by_cases h:q
 ·rw[if_pos h];exact h1 h
 ·rw[if_neg h];exact h2 h
theorem Km{m:aQ}(hc:c.R=λy=>y=X)(hk:Kp c.R p st)(a:X.Perm a0)(hp:Ch p.toList 0 lo)(h:sa+na+nb<=X.size)(hm:Pm (X.extract sa (sa+na)) (X.extract (sa+na) (sa+na+nb)) m):f6 c (CN sa m) (uy a0 lo) st:=by
 have hx:gQ st=X:=by have :=hk.arr;rw[hc]at this;exact this
 refine gR (zE (gR (pX (kf ⟨?_,hk.kind,hk.failed,?_,?_⟩))))
 ·show(wj st).isNone=true;rw[hk.failed];rfl
 ·show Array.Perm (List.foldl _ (gQ st) _) a0;rw[hx];exact(Qj h hm).trans a
 ·show Ch (c9 st).toList 0 lo;rw[hk.pend];exact hp
theorem IntKeys.sub{a b:aQ}(h:IntKeys a)(hs: ∀p,p∈b.toList->p∈a.toList):IntKeys b:=λp hp=>h p (hs p hp)
theorem IntKeys.ext{a:aQ}(h:IntKeys a)(i j:Nat):IntKeys (a.extract i j):=IntKeys.sub h λp hp=>Mq (Ft ((oU a i j).symm▸hp:p∈(a.toList.drop i).take (j-i)))
theorem Ir{i j:Nat}(h:j<=X.size):(X.extract i j).size=j-i:=by rw[Array.size_extract,Fh h]
theorem Ut(hc:c.R=λy=>y=X)(h0:IntKeys X)(hk:Kp c.R p st)(d:X.Perm a0)(hp:Ch p.toList 0 lo)(h:sa+na+nb<=X.size)(hb:0<nb):f6 c (DA X sa na (sa+na) nb) (uy a0 lo) st:=by
 have hw: ∀e,Kp c.R p e->uy a0 lo true e:=λe hk=>⟨rfl,hk.kind,hk.failed,(by have :=hk.arr;rw[hc]at this;rw[this];exact d),hk.pend.symm▸hp⟩
 refine qo (λa=>kf (hw st hk)) λj=>(So.elem h0 (i:=sa+na-1) (d7 (kg _ _) (dr (Fp hb) h))).use hk λy st f hk=>?_
 refine(r6 h0 f.2 h (rn hb pZ)).use hk λo st ho hk=>?_
 obtain⟨t,rfl,g⟩:=ho
 have h2:sa+na+t<=X.size:=aZ (kY g _) h
 have s1:0< (X.extract sa (sa+na)).size:=by simp only[Ir (aZ (ij _ _) h2),tR];exact wl (mc j)
 refine qo (λa=>kf (hw st hk)) λb=>?_
 have s2:0< (X.extract (sa+na) (sa+na+t)).size:=by simp only[Ir h2,tR];exact wl (mc b)
 exact qo (λa=>(TL (IntKeys.ext h0 _ _) (IntKeys.ext h0 _ _) s1 s2).use hk λm st hm hk=>Km hc hk d hp h2 hm) λa=>(NL (IntKeys.ext h0 _ _) (IntKeys.ext h0 _ _) s1 s2).use hk λm st hm hk=>Km hc hk d hp h2 hm
theorem WC(h0:IntKeys a0)(b:lo<=a0.size)(hw:Wk a0 lo st)(hi:i+1< (c9 st).size):f6 c (zL i) (uy a0 lo) st:=by
 refine aj λh=>?_
 obtain⟨sa,na,pw,nb,tr,hc⟩:=WM hw.ch hi
 refine h ?_
 have e1:=Fl.symm.trans hc.x
 have e2:=Fl.symm.trans hc.y
 rw[Ri]
 refine gR (pX ?_)
 simp only[e1,e2]
 refine gR (WO ?_)
 have a:IntKeys (gQ st):=IntKeys.sub h0 λp hp=>(Fs.mp hw.arr).mem_iff.mp hp
 have hs:(gQ st).size=a0.size:=hw.arr.size_eq
 have hl:sa+na+nb<=(gQ st).size:=hs▸aZ hc.le b
 have hp:Ch (((c9 st).setIfInBounds i (sa,na+nb,pw)).eraseIdxIfInBounds (i+1)).toList 0 lo:=by rw[Array.toList_eraseIdxIfInBounds,XF];exact hc.m
 let d:SC:=⟨c.prog,c.w,c.A,c.E,c.s,λy=>y=gQ st⟩
 have hk:Kp d.R (((c9 st).setIfInBounds i (sa,na+nb,pw)).eraseIdxIfInBounds (i+1)) (Fq st (((c9 st).setIfInBounds i (sa,na+nb,pw)).eraseIdxIfInBounds (i+1))):=⟨hw.kind,hw.failed,rfl,rfl⟩
 refine So.use (c:=d) (So.elem a (i:=sa+na) (dr (Fp hc.pb) hl)) hk λy vK g hk=>?_
 refine So.use (c:=d) (r6 a g.2 (aZ (ij _ nb) hl) hc.pa) hk λo j ho hk=>?_
 obtain⟨k,rfl,f⟩:=ho
 have e:sa+na=sa+k+(na-k):=by rw[mT,tO f]
 show f6 d (DA (gQ st) (sa+k) (na-k) (sa+na) nb) (uy a0 lo) j
 rw[e]at hl ⊢
 exact Ut rfl a hk hw.arr hp hl hc.pb
end
noncomputable def De(lo:Nat)(s:Option (Option Nat)×Nat):SM (ForInStep (Option (Option Nat)×Nat)):=ltAt' (lo+s.2) (lo+s.2-1)>>=λo=>g9 o (aH (.done (some none,s.2))) λb=>if b=true then aH (.done (none,s.2))else aH (.yield (none,s.2+1))
noncomputable def Ux(lo:Nat)(s:Option (Option Nat)×Nat×Nat):SM (ForInStep (Option (Option Nat)×Nat×Nat)):=ltAt' (lo+s.2.1) (lo+s.2.1-1)>>=λo=>g9 o (aH (.done (some none,s.2.1,s.2.2))) λb=>if b=true then
  (if s.2.2>0 then zN (lo+s.2.1-(s.2.2+1)) (lo+s.2.1)>>=λz_=>aH (.yield (none,s.2.1+1,0))else aH (.yield (none,s.2.1+1,0)))
 else ltAt' (lo+s.2.1-1) (lo+s.2.1)>>=λo=>g9 o (aH (.done (some none,s.2.1,s.2.2))) λb=>if b=true then aH (.done (none,s.2.1,s.2.2))else aH (.yield (none,s.2.1+1,s.2.2+1))
noncomputable def CH(lo dP n:Nat):SM (Option Nat):=zN lo (lo+n)>>=λa=>forIn [n:dP] (none,n) (λa s=>De lo s)>>=λs=>oe s.1 (aH (some s.2)) λr=>aH r
noncomputable def AV(lo dP n:Nat):SM (Option Nat):=liftM (og "list.sort.descending-run")>>=λa=>forIn [n+1:dP] (none,n+1,0) (λa s=>Ux lo s)>>=λs=>
 oe s.1 (if s.2.2>0 then zN (lo+s.2.1-(s.2.2+1)) (lo+s.2.1)>>=λa=>CH lo dP s.2.1 else CH lo dP s.2.1) λr=>aH r
theorem PY(lo dP:Nat):countRun' lo dP=(forIn [1:dP] (none,1) (λa s=>De lo s)>>=λs=>oe s.1 (if(s.2==dP)=true then aH (some s.2)else
 if s.2>1 then ltAt' lo (lo+s.2-1)>>=λo=>g9 o (aH none) λb=>if b=true then aH (some s.2)else zN lo (lo+s.2)>>=λa=>AV lo dP s.2 else AV lo dP s.2) λr=>aH r):=by kernel_rfl
noncomputable def QE(lo k:Nat)(s:Option Bool×Nat×Nat):SM (ForInStep (Option Bool×Nat×Nat)):=if s.2.1≥s.2.2 then aH (.done (none,s.2.1,s.2.2))else ltAt' (lo+k) (lo+(s.2.1+s.2.2)/2)>>=λo=>g9 o (aH (.done (some false,s.2.1,s.2.2)))
 λb=>if b=true then aH (.yield (none,s.2.1,(s.2.1+s.2.2)/2))else aH (.yield (none,(s.2.1+s.2.2)/2+1,s.2.2))
noncomputable def Oj(lo k:Nat):SM (ForInStep (Option Bool×Unit)):=forIn [0:k] (none,0,k) (λa s=>QE lo k s)>>=λs=>oe s.1 (moveDown' (lo+k) (lo+s.2.1)>>=λa=>aH (.yield (none,()))) λr=>aH (.done (some r,()))
theorem Rr(lo n ok:Nat):Mr lo n ok=(forIn [max ok 1:n] (none,()) (λk z_=>Oj lo k)>>=λs=>oe s.1 (aH true) λr=>aH r):=by kernel_rfl
noncomputable def I1(size pw:Nat)(o:Option (Nat×Nat×Nat))(k:Nat):SM (ForInStep (Option Unit×Unit)):=match o with
 |some (_,_,a)=>if a<=pw then aH (.done (none,()))else zL k>>=λb=>if(!b)=true then aH (.done (some (),()))else aH (.yield (none,()))
 |x=>aH (.done (none,()))
noncomputable def Dd(lo n:Nat):SM (ForInStep (Option Unit×Nat)):=modify (λs=>Fq s ((c9 s).push (lo,n,0)))>>=λz_=>aH (.yield (none,lo+n))
noncomputable def Nb(size lo n:Nat)(o:Option (Nat×Nat×Nat)):SM (ForInStep (Option Unit×Nat)):=match o with
 |some (s1,n1,_)=>forIn [0:size] (none,()) (λa a=>pW>>=λs=>I1 size (power' size (2*s1+n1) (2*s1+n1+n1+n) size) (if(c9 s).size>1 then(c9 s)[(c9 s).size-2]? else none) ((c9 s).size-2))>>=λs=>
  oe s.1 (modify (λs=>Fq s ((c9 s).modify ((c9 s).size-1) λx=>(x.1,x.2.1,power' size (2*s1+n1) (2*s1+n1+n1+n) size)))>>=λa=>Dd lo n) λr=>aH (.done (some r,lo))
 |x=>Dd lo n
noncomputable def DK(size lo n:Nat):SM (ForInStep (Option Unit×Nat)):=pW>>=λs=>Nb size lo n (c9 s).back?
noncomputable def IB(size:Nat)(s:Option Unit×Nat):SM (ForInStep (Option Unit×Nat)):=if s.2≥size then aH (.done (none,s.2))else countRun' s.2 (size-s.2)>>=λo=>g9 o (aH (.done (some (),s.2))) λn=>
 if n<zO size size 0 then liftM (og "list.sort.binary-insertion")>>=λz_=>Mr s.2 (min (size-s.2) (zO size size 0)) n>>=λb=>if(!b)=true then aH (.done (some (),s.2))else DK size s.2 (min (size-s.2) (zO size size 0))
 else DK size s.2 n
noncomputable def G2:SM (ForInStep (Option Unit×Unit)):=pW>>=λs=>if(c9 s).size<=1 then aH (.done (none,()))else
 zL (if Option.any (λx=>decide (x< (c9 s)[(c9 s).size-2+1]?.elim 0 λx=>x.2.1)) (if(c9 s).size-2>0 then Fk (λx=>x.2.1) (c9 s)[(c9 s).size-2-1]? else none)=true then(c9 s).size-2-1 else(c9 s).size-2)>>=λb=>
 if(!b)=true then aH (.done (some (),()))else aH (.yield (none,()))
theorem Nd:sortRuns'=(pW>>=λs=>forIn [0:(gQ s).size] (none,0) (λa t=>IB (gQ s).size t)>>=λt=>oe t.1 (forIn [0:(gQ s).size] (none,()) (λa a=>G2)>>=λt=>oe t.1 (aH ()) λr=>aH r) λr=>aH r):=by kernel_rfl
section
variable {c:SC} {a0:aQ} {lo n k i j m dP:Nat} {st:ig}
structure Cx(c:SC)(a0:aQ):Prop where
 R:c.R=λy=>y.Perm a0
 K:IntKeys a0
theorem So.ltAt(h:Cx c a0)(hi:i<a0.size)(a:j<a0.size):So c (ltAt' i j) SB:=λp st hk=>by
 have hp:(gQ st).Perm a0:=by have :=hk.arr;rwa[h.R]at this
 have b:IntKeys (gQ st):=IntKeys.sub h.K λp d=>(Fs.mp hp).mem_iff.mp d
 exact gR (pX ((Array.Perm.size_eq hp).symm▸hi |> λhi=>(Array.Perm.size_eq hp).symm▸a |> λa=>(So.elem b hi).use hk λx st hx hk=>(So.elem b a).use hk λy st e hk=>So.lt hx.2 e.2 p st hk))
theorem So.arr(h:Cx c a0){f:aQ->aQ}(hf: ∀x,(f x).Perm x):So c (modify λs=>setArr s (f (gQ s))) λz_=>True:=λp st hk=>
 zE ⟨⟨hk.kind,hk.failed,(by have :=hk.arr;simp only[h.R]at this ⊢;exact(hf _).trans this),hk.pend⟩,trivial⟩
theorem So.rev(h:Cx c a0):So c (zN i j) λz_=>True:=reverseSlice'_eq i j▸So.arr h λx=>mirror_perm x _ _ _
theorem So.move(h:Cx c a0):So c (moveDown' i j) λz_=>True:=moveDown'_eq i j▸So.arr h λx=>bubble_perm x _ _
abbrev WB(n m:Nat)(s:Option (Option Nat)×Nat):Prop:=s.1=none/\n<=s.2/\s.2<=m
abbrev CE(m:Nat)(o:Option Nat):Prop:=∃k,o=some k/\0<k/\k<=m
theorem GV(h:Cx c a0)(hn:0<n)(hm:n<=dP)(hs:lo+dP<=a0.size):So c (forIn [n:dP] ((none,n):Option (Option Nat)×Nat) λa s=>De lo s) (WB n dP):=
 So.forR (λi s=>s.1=none/\n<=i/\s.2=i) hm ⟨rfl,cR n,rfl⟩ (λs h=>⟨h.1,h.2.2▸hm,iK h.2.2⟩) λi s hi d=>by
  obtain⟨r,k⟩:=s
  obtain⟨rfl,hk,rfl⟩:=d
  have h1:lo+k<a0.size:=dr (pY hi lo) hs
  exact(So.ltAt h h1 (d7 (kg _ 1) h1)).bindS λb a=>So.ite (λa=>So.pure ⟨rfl,hk,eP hi⟩) λa=>So.pure ⟨rfl,zI hk,rfl⟩
theorem Jp(h:Cx c a0)(hn:0<n)(hm:n<=dP)(hs:lo+dP<=a0.size):So c (CH lo dP n) (CE dP):=
 (So.rev h).bind λa a=>(GV h hn hm hs).bind λs b=>by
  obtain⟨r,k⟩:=s
  obtain⟨rfl,h1,h2⟩:=b
  exact So.pure ⟨k,rfl,dr hn h1,h2⟩
theorem I8(h:Cx c a0)(hn:0<n)(hm:n<dP)(hs:lo+dP<=a0.size):So c (AV lo dP n) (CE dP):=
 So.rule.bind λa a=>(So.forR (λi s=>s.1=none/\0<i/\s.2.1=i) (Q:=λs=>s.1=none/\0<s.2.1/\s.2.1<=dP) hm ⟨rfl,zM n,rfl⟩ (λs h=>⟨h.1,h.2.2▸h.2.1,iK h.2.2⟩) λi s hi d=>by
  obtain⟨r,k,q⟩:=s
  obtain⟨rfl,hk,rfl⟩:=d
  have h1:lo+k<a0.size:=dr (pY hi lo) hs
  have h2:lo+k-1<a0.size:=d7 (kg _ _) h1
  exact(So.ltAt h h1 h2).bindS λb a=>So.ite (λa=>So.ite (λa=>(So.rev h).bind λa a=>So.pure ⟨rfl,zM k,rfl⟩) λa=>So.pure ⟨rfl,zM k,rfl⟩)
   λa=>(So.ltAt h h2 h1).bindS λb a=>So.ite (λa=>So.pure ⟨rfl,hk,eP hi⟩) λa=>So.pure ⟨rfl,zM k,rfl⟩).bind λs d=>by
  obtain⟨r,k,q⟩:=s
  obtain⟨rfl,h1,h2⟩:=d
  exact So.ite (λa=>(So.rev h).bind λa a=>Jp h h1 h2 hs) λa=>Jp h h1 h2 hs
theorem Ua(h:Cx c a0)(hm:0<dP)(hs:lo+dP<=a0.size):So c (countRun' lo dP) (CE dP):=by
 rw[PY]
 refine(GV h pZ hm hs).bind λs d=>?_
 obtain⟨r,k⟩:=s
 obtain⟨rfl,h1,h2⟩:=d
 refine So.ite (λa=>So.pure ⟨k,rfl,h1,h2⟩) λe=>?_
 have h3:=me e h2
 have h4:lo+k<a0.size:=dr (pY h3 lo) hs
 exact So.ite (λa=>(So.ltAt h (d7 (ij lo k) h4) (d7 (kg (lo+k) 1) h4)).bindS λb a=>So.ite (λa=>So.pure ⟨k,rfl,h1,h2⟩) λa=>(So.rev h).bind λa a=>I8 h h1 h3 hs) λa=>I8 h h1 h3 hs
theorem RO(h:Cx c a0)(hs:lo+n<=a0.size)(d:max k 1<=n):So c (Mr lo n k) λb=>b=true:=by
 rw[Rr]
 refine(So.forR (λa s=>s.1=none) (Q:=λs=>s.1=none) d rfl (λs h=>h) λi s hi e=>?_).bind λs hs=>?_
 ·refine(So.forR (λa s=>s.1=none/\s.2.2<=i) (Q:=λs=>s.1=none) (dx _) ⟨rfl,cR i⟩ (λs h=>h.1) λj s hj e=>So.ite (λa=>?_) λf=>?_).bind λs hs=>?_
  ·exact So.pure rfl
  ·have hm:(s.2.1+s.2.2)/2<i:=dr (Nat.div_lt_of_lt_mul (Ms s.2.2▸XI (rl.mp f) _)) e.2
   exact(So.ltAt h (dr (pY hi lo) hs) (dr (pY (zC hm hi) lo) hs)).bindS λb a=>So.ite (λa=>So.pure ⟨rfl,eP hm⟩) λa=>So.pure ⟨rfl,e.2⟩
  ·rw[hs];exact(So.move h).bind λa a=>So.pure rfl
 ·rw[hs];exact So.pure rfl
theorem Wk.kp(hw:Wk a0 lo st)(h:Cx c a0):Kp c.R (c9 st) st:=⟨hw.kind,hw.failed,h.R▸hw.arr,rfl⟩
theorem Wk.of(h:Cx c a0){p:AP}(hk:Kp c.R p st)(hp:Ch p.toList 0 lo):Wk a0 lo st:=⟨hk.kind,hk.failed,(by have :=hk.arr;rwa[h.R]at this),hk.pend.symm▸hp⟩
def qi{β:Type}(D Y:β->ig->Prop)(r:ForInStep β)(st:ig):Prop:=sQ (λs=>D s st) (λs=>Y s st) r
theorem Ao{β:Type}{m:Nat}{f:Nat->β->SM (ForInStep β)}{s:β}(I:β->ig->Prop)(h:I s st)(d: ∀i s st,I s st->f6 c (f i s) (qi I I) st):f6 c (forIn [0:m] s f) I st:=
 wpS_forRange (I:=λb=>I) (λi s st b hi a=>pV (d i s st a) λr fi h'=>by
  induction r with
  |done s'=>exact h'
  |yield s'=>exact h') (λs st a=>a) h
abbrev oI(a0:aQ)(s:Option Unit×Nat)(st:ig):Prop:=s.1=none/\s.2<=a0.size/\Wk a0 s.2 st
abbrev oY(a0:aQ)(lo:Nat)(s:Option Unit×Unit)(st:ig):Prop:=s.1=none/\Wk a0 lo st
theorem I5(h:Cx c a0)(a:lo<=a0.size)(hw:Wk a0 lo st)(hi:i+1< (c9 st).size):
  f6 c (zL i>>=λb=>if(!b)=true then aH (.done (some (),()))else aH (.yield (none,()))) (qi (oY a0 lo) (oY a0 lo)) st:=
 gR (pV (WC h.K a hw hi) λb fi hb=>by obtain⟨rfl,hw⟩:=hb;exact kf ⟨rfl,hw⟩)
theorem Jc{q:Prop} [Decidable q]{s:Nat}(h:1<s):(if q then s-2-1 else s-2)+1<s:=by
 obtain⟨m,rfl⟩: ∃m,s=m+2:=⟨s-2,(wk h).symm⟩
 rw[Nat.add_sub_cancel]
 split
 ·exact zP (je (kg m 1))
 ·exact lU (m+1)
theorem P4(h:Cx c a0)(b:lo<=a0.size)(hw:Wk a0 lo st)(o:Option (Nat×Nat×Nat)):f6 c (I1 n m (if(c9 st).size>1 then o else none) ((c9 st).size-2)) (qi (oY a0 lo) (oY a0 lo)) st:=by
 by_cases hp:(c9 st).size>1
 ·rw[if_pos hp]
  induction o with
  |none=>exact kf ⟨rfl,hw⟩
  |some x=>
   obtain⟨x,y,z⟩:=x
   exact qo (λa=>kf ⟨rfl,hw⟩) λa=>I5 h b hw (Jc (q:=False) hp)
 ·rw[if_neg hp];exact kf ⟨rfl,hw⟩
theorem Hp(hw:Wk a0 lo st)(hn:0<n)(hs:lo+n<=a0.size):f6 c (Dd lo n) (qi (oI a0) (oI a0)) st:=
 gR (zE (kf ⟨rfl,hs,hw.kind,hw.failed,hw.arr,(by show Ch ((c9 st).push _).toList 0 _;rw[zH];exact Ig hw.ch n 0 hn)⟩))
theorem JD(h:Cx c a0)(hw:Wk a0 lo st)(hn:0<n)(hs:lo+n<=a0.size):f6 c (DK m lo n) (qi (oI a0) (oI a0)) st:=by
 refine gR (pX ?_)
 cases(c9 st).back? with
 |none=>exact Hp hw hn hs
 |some x=>
  obtain⟨x,y,z⟩:=x
  have b:=aZ (ij lo n) hs
  refine gR (pV (Ao (oY a0 lo) ⟨rfl,hw⟩ λi s st a=>gR (pX (P4 h b a.2 _))) λs st a=>?_)
  rw[a.1]
  exact gR (zE (Hp ⟨a.2.kind,a.2.failed,a.2.arr,(by show Ch ((c9 st).modify _ _).toList 0 _;rw[Array.toList_modify];exact JR _ a.2.ch)⟩ hn hs))
theorem P5(h:Cx c a0)(s:Option Unit×Nat)(a:oI a0 s st):f6 c (IB a0.size s) (qi (oI a0) (oI a0)) st:=by
 refine qo (λe=>kf ⟨rfl,a.2⟩) λd=>?_
 replace d:=rl.mp d
 have hs:s.2+(a0.size-s.2)<=a0.size:=iK (tO (eP d))
 refine(Ua h (zF d) hs).use (a.2.2.kp h) λo fi ho hk=>?_
 obtain⟨k,rfl,f,j⟩:=ho
 have hw:=Wk.of h hk a.2.2.ch
 refine qo (λhm=>?_) λe=>JD h hw f (aZ (kY j _) hs)
 have g:k<=min (a0.size-s.2) (zO a0.size a0.size 0):=Nat.le_min.mpr ⟨j,eP hm⟩
 have i:=aZ (kY (Nat.min_le_left (a0.size-s.2) (zO a0.size a0.size 0)) _) hs
 refine So.rule.use hk λe Lc e hk=>(RO h i (Nat.max_le.mpr ⟨g,aZ f g⟩)).use hk λb qP hb hk=>?_
 rw[hb]
 exact JD h (Wk.of h hk a.2.2.ch) (dr f g) i
theorem UG(h:Cx c a0)(a:lo<=a0.size)(hw:Wk a0 lo st):f6 c G2 (qi (oY a0 lo) (oY a0 lo)) st:=by
 refine gR (pX (qo (λz_=>kf ⟨rfl,hw⟩) λhp=>I5 h a hw (Jc (rl.mp hp))))
theorem NK(h:Cx c a0)(hw:Wk a0 0 st):f6 c sortRuns' (λz_ d=>(gQ d).Perm a0/\wj d=none) st:=by
 rw[Nd]
 refine gR (pX (gR (pV (Ao (oI a0) ⟨rfl,dx _,hw⟩ λi s e b=>hw.arr.size_eq▸P5 h s b) λs st b=>?_)))
 rw[b.1]
 refine gR (pV (Ao (oY a0 s.2) ⟨rfl,b.2.2⟩ λi s e a=>UG h b.2.1 a.2) λt st a=>?_)
 rw[a.1]
 exact kf ⟨a.2.arr,a.2.failed⟩
end
end
section
set_option maxRecDepth 20000
section
variable {prog:jV} {w:n9} {A:gq} {E:an->bt->Prop} {s:bt} {vs:List an} {ns:List Int}
def kG(h h':bo):Prop:=∀b o,h.get? b=some o->h'.get? b=some o
theorem RQ{xs:aQ}(a:jc vs ns)(hp:xs.Perm (pairsOf vs)): ∃ms,jc (xs.map (·.2)).toList ms/\ms.Perm ns:=by
 have hl:(xs.map (·.2)).toList.Perm vs:=by
  rw[Array.toList_map]
  have h:=(Fs.mp hp).map (·.2)
  rwa[pairsOf_toList,List.map_snd_zip (cR _)]at h
 exact⟨_,intsAre_map _ λv b=>a.all v (hl.mem_iff.mp b),a.nums▸hl.map numOf⟩
theorem VM{a:aw}{n:Nat}{P:Fin->bt->Prop}(ho:s.heap.get? a=some (p4 "list" vs.toArray n))(b:jc vs ns)(h2:2<=vs.length)(hz:vs.length<=bO)
  (h: ∀out ms,jc out.toList ms->ms.Perm ns->P (.done (.ret .none)) {s with heap:=sortedHeap s.heap a vs out}):cW (lS prog w) A (Builtin.«list.sort» ⟨[.ref a],[]⟩) P E s:=by
 obtain⟨v1,v2,r,rfl⟩: ∃v1 v2 r,vs=v1::v2::r:=by
  match vs,h2 with
  |v1::v2::r,_=>exact⟨v1,v2,r,rfl⟩
 have f:¬(v1::v2::r).toArray.size<2:=pT.mpr h2
 rw[list_sort_plain]
 have ha:a<s.heap.objs.size:=gm ho
 refine bN (listItems_at ho rfl (bN (listUpdate_at ho rfl ?_ hz (dx _))))
 have g:=get?_update_seq ho (λd=>#[])
 refine bN (seqEpoch_at g rfl (bN (wpAny_newTuple (bN (wpAny_newList (tD ?_))) hz)))
 rw[if_neg f,if_neg f,keyKind_ints b]
 have i:=jZ (p4 "list" #[] 0) (jZ (p4 "tuple" (v1::v2::r).toArray 0) g)
 refine bN (dq (bN (eg (NK (c:=⟨prog,w,A,E,_,λy=>y.Perm (pairsOf (v1::v2::r))⟩) (a0:=pairsOf (v1::v2::r)) ⟨rfl,b.intKeys⟩ ⟨rfl,rfl,Array.Perm.refl _,rfl⟩) ?_ λd d e=>e)))
 rintro⟨⟨⟩,st⟩ s' ⟨rfl,hp,hf⟩
 refine bN (seqEpoch_at i rfl (bN (listUpdate_at i rfl ?_ (dx _) (by simp only[Array.size_map,hp.size_eq,pairsOf_size];exact zI hz))))
 rw[hf]
 simp only[bne_self_eq_false,zn,if_false]
 refine aj λj=>?_
 obtain⟨ms,h1,h2⟩:=RQ b hp
 refine j ?_
 exact dq (h _ ms h1 h2)
theorem Ie{r:an}{Q:an->bt->Prop}(hz:ns.length<=bO)
  (hc: ∀Q':List an->bt->Prop,(∀h' a vs,kG s.heap h'->jc vs ns->Q' vs {s with heap:=h',toks:=a})->cW (lS prog w) A.in1 (collect r) Q' E s)
  (h: ∀h' a b us c ms,kG s.heap h'->(∀o,s.heap.get? b≠some o)->h'.get? b=some (p4 "list" us c)->jc us.toList ms->ms.Perm ns->(ns.length<64->ms.Pairwise (· <= ·))->Q (.ref b) {s with heap:=h',toks:=a}):
  cW (lS prog w) A (call (.builtin "sorted") [r]) Q E s:=by
 refine Calls.call_function_entry kind_sorted plain_sorted entry_sorted (args_sorted1 _) ?_
 unfold Builtin.«sorted»
 refine bN (m:=checkCount "sorted" 1 1 _) (dq (bN (hc _ λh1 a vs hk g=>?_)))
 have hl:vs.length=ns.length:=by simp only[← g.nums,bi]
 have k:vs.length<=bO:=hl▸hz
 refine bN (wpAny_newList ?_ k)
 have d:(h1.push (p4 "list" vs.toArray 0)).get? h1.objs.size=some (p4 "list" vs.toArray 0):=tC _ rfl
 have l: ∀o,s.heap.get? h1.objs.size≠some o:=λo e=>qJ o (hk _ _ e)
 have fin: ∀out ms,jc out.toList ms->ms.Perm ns->(ns.length<64->ms.Pairwise (· <= ·))->
   Q (.ref h1.objs.size) {s with heap:=sortedHeap (h1.push (p4 "list" vs.toArray 0)) h1.objs.size vs out,toks:=a}:=λout ms e1 e2 i=>by
  obtain⟨c,hc⟩:=sortedHeap_at (vs:=vs) (out:=out) d
  refine h _ a _ out c ms (λb o hb=>?_) l hc e1 e2 i
  have j:=gm (hk _ _ hb)
  rw[sortedHeap_old (tL j) (by rw[size_push'];exact Nat.lt_succ_of_lt j)]
  exact jZ _ (hk _ _ hb)
 refine bN (tD (Mh slot_list_sort ⟨_,d,rfl⟩ entry_list_sort ?_ (args_list_sort _)))
 by_cases f:vs.length<64
 ·exact list_sort_tree d g f λout ms e1 e2 i=>⟨_,rfl,dq ⟨_,rfl,fin out ms e1 e2 λz_=>i⟩⟩
 ·exact VM d g (aZ (by decide) (pT.mp f)) k λout ms e1 e2=>⟨_,rfl,dq ⟨_,rfl,fin out ms e1 e2 λhn=>absurd (hl.symm▸hn) f⟩⟩
theorem Sw{l:aw}{Q:an->bt->Prop}(hl:s.heap.IsList l vs.toArray)(a:jc vs ns)(hz:ns.length<=bO)
  (h: ∀h' d b us c ms,kG s.heap h'->(∀o,s.heap.get? b≠some o)->h'.get? b=some (p4 "list" us c)->jc us.toList ms->ms.Perm ns->(ns.length<64->ms.Pairwise (· <= ·))->Q (.ref b) {s with heap:=h',toks:=d}):
  cW (lS prog w) A (call (.builtin "sorted") [.ref l]) Q E s:=by
 have e:vs.length<=bO:=by rw[← a.nums,bi]at hz;exact hz
 refine Ie hz (λQ' hq=>collect_list hl (hq _ s.toks vs (λb o hb=>?_) a) e) h
 rw[Heap.get?_update_ne _ _ _ _ (tL (gm hb))]
 exact jZ _ hb
end
section
variable {G:aK} {d:Nat} {Γ:Fm} {S:St}
theorem aF.ofInts{H:PM}{vs:List an}{ns:List Int}(h:jc vs ns):aF H (ns.map T.int) vs:=by
 induction h with
 |nil=>rfl
 |cons n t h a=>exact⟨_,_,rfl,VR.ofInt,a⟩
theorem ae.srt{H:PM}{led0 led:av}{m:bX an}{C:List Int->Prop}{Q:an->PM->av->Prop}(h:ae G d H led0 m λv H' l=>∃ts,(∃ms:List Int,ts=ms.map T.int/\C ms)/\Ax ts v H' l)
  (hq: ∀ms,C ms->∀a vs o H',Le H H'->aF H' (ms.map T.int) vs->cj o vs->(ms.map T.int).length<=bO->Q (.ref a) H' ((a,o)::led)):ae G d H (led0++led) m Q:=
 (ae.frame (fr:=led) h).mono λv H' l le z=>by
  obtain⟨l',e,ts,⟨ms,rfl,c⟩,a,vs,o,rfl,r,k,z,rfl⟩:=z
  subst e
  exact hq ms c a vs o H' le r k z
theorem b5.sorted{p pos:ax}{e:Expr}{Q:aw->List T->St->Prop}(hg:cI G "sorted" (.builtin "sorted"))(hk:Γ.env.kindOf "sorted"=some .globalImplicit)(hp:bh e=true)
  (h:Ev G d Γ S e λt S1=>∃ns:List Int,t= .list (ns.map .int)/\∀ms:List Int,ms.Perm ns->(ns.length<64->ms.Pairwise (· <= ·))->∀a,Q a (ms.map .int) S1):b5 G d Γ S (.Call (.Name "sorted" p) [e] [] pos) Q:=by
 intro H led hs
 refine ae.bind (ae.gname hs hg hk (by decide) ?_)
 refine ae.callBuiltin (.b _) (by simp only[rd,hp];rfl) (ae.spliced_cons hp ((h H led hs).mono λv H' l le u=>ae.pure ?_))
 refine aj λw=>?_
 obtain⟨t,S1,rt,s1,ns,rfl,q⟩:=u
 obtain⟨a,vs,o,rfl,ha,ho,hz,rs⟩:=rt.list
 refine w ?_
 rw[bi]at hz
 refine ae.srt (led0:=[]) (C:=λms=>ms.Perm ns/\(ns.length<64->ms.Pairwise (· <= ·))) (ae.growE λA s ok hp tk hf g g=>?_) λms c a vs o H2 x r k z=>⟨a,vs,o,_,S1,l,rfl,r,k,z,rfl,s1.mono x,q ms c.1 c.2 a⟩
 refine Sw (ho.isList (hf _ _ ha)) rs.ints hz λh' aU b us c ms n k2 m j f i=>⟨_,⟨ms,rfl,f,i⟩,h',aU,b,us.toList,_,n,rfl,rfl,k2,m,⟨c,rfl⟩,?_,aF.ofInts j⟩
 rw[bi,f.length_eq];exact hz
end
end
section
section
variable {prog:jV} {w:n9} {A:gq} {E:an->bt->Prop} {s:bt} {vs:List an} {ns:List Int}
theorem W7:typeLookup (.type "list") "keys"=pure none:=by rw[typeLookup_type,builtinLookup_eq_fast];kernel_rfl
theorem UQ{a:aw}{xs:Array an}{n:Nat}{Q:Option an->bt->Prop}(hx:s.heap.get? a=some {cls:=.type "list",dict:=none,data:=.seq xs n,slots:=#[]}) (hA:A.handled=none)
  (h: ∀h' b,kG s.heap h'->Q none {s with heap:=h',toks:=b}):cW (lS prog w) A (getAttr? (.ref a) "keys") Q E s:=by
 obtain⟨hp,g,d,b,os⟩:=s
 have c: ∀aU,(⟨hp,g,d,aU,os⟩:bt).TypeIs (.ref a) "list":=λz_=>⟨_,hx,rfl⟩
 have f1:=sub_AttributeError
 have f3:=Mt.lookup
 have f4:=Mt.bind (.ref a)
 have f5:=am_list_getattr_none
 unfold getAttr? getAttrBy? getAttrBy
 repeat(any_goals (first |assumption|exact c _|((with_reducible show cW _ _ (call (Value.builtin "list.__getattribute__") _ _) _ _ _);refine Fe Mt (c _) am_entry_list_getattribute (F.args_list_getattribute_2 _ _) (meets_getattribute_miss_list a xs n _ "keys" _ W7 (by decide+kernel)) ⟨hx,hA,λh' aU e f=>?_⟩)|wp_step))
 refine aj λi=>?_
 obtain⟨t',u',he⟩:=f.there
 refine i ?_
 unfold getattributeRaised
 repeat(any_goals (first |assumption|wp_step))
 exact h _ _ f.keeps
theorem xz:plainId "dict.update.loop"=true:=by decide+kernel
theorem HY:entryFor table "dict.update.loop"=some Builtin.«dict.update.loop» :=entryFor_of_tree (by kernel_rfl)
structure VG(h0:bo)(it l d:aw)(ps:List (Int×Bool))(vs:List an):Prop where
 ni: ∀o,h0.get? it≠some o
 nd: ∀o,h0.get? d≠some o
 ne:it≠d
 ls:h0.IsList l vs.toArray
 len:vs.length=ps.length
 at_: ∀(i:Nat) (v:an),vs[i]? =some v->∃t o k u b n,v=wp t/\h0.get? t=some o/\o.cls= .type "tuple"/\o.data= .seq #[.int k u,.bool b] n/\ps[i]? =some (k,b)
structure qw(kvs:List (Int×an))(ps:List (Int×Bool)):Prop where
 mem: ∀k,k∈kvs.map ai↔∃b,(k,b)∈ps
 len:kvs.length<=ps.length
theorem Qq{kvs:List (Int×an)}{k:Int}{v:an}:(stored kvs k v).length<=kvs.length+1:=by
 unfold stored
 split
 ·rw[bi];exact wd _
 ·rw[fF];exact cR _
theorem P3{kvs:List (Int×an)}{k x:Int}{v:an}:x∈(stored kvs k v).map ai↔x∈kvs.map ai\/x=k:=by
 unfold stored
 split
 ·rename_i h
  have e:(kvs.map λkv=>if kv.1=k then(kv.1,v)else kv).map ai=kvs.map ai:=by
   rw[jy];exact tN λa z_=>by show(if a.1=k then(a.1,v)else a).1=a.1;split<;>rfl
  rw[e]
  obtain⟨a,ha,hk⟩:=List.any_eq_true.mp h
  exact⟨.inl,λh=>h.elim id λh=>h▸of_decide_eq_true hk▸j6 ha⟩
 ·rw[jX,iI];exact or_congr Iff.rfl bC
theorem qw.put{kvs:List (Int×an)}{ps:List (Int×Bool)}(h:qw kvs ps)(k:Int)(b:Bool):qw (stored kvs k (.bool b)) (ps++[(k,b)]):=by
 refine⟨λx=>?_,aZ Qq ?_⟩
 ·rw[P3,h.mem]
  constructor
  ·rintro(⟨c,hc⟩|rfl)
   ·exact⟨c,j8 _ hc⟩
   ·exact⟨b,iG _ (bC.mpr rfl)⟩
  ·rintro⟨c,hc⟩
   rcases iI.mp hc with hc|hc
   ·exact .inl ⟨c,hc⟩
   ·exact .inr (congrArg ai (bC.mp hc))
 ·simp only[fF];exact je h.len
theorem Pd{h0:bo}{it l d:aw}{ps:List (Int×Bool)}(hD:VG h0 it l d ps vs)(hz:ps.length<bO)(hA:A.handled=none){R:Result->bt->Prop}
  (hR: ∀h' a kvs,kG h0 h'->h'.DictOf (iH prog w) d kvs->qw kvs ps->R (.ok (.ret .none)) {s with heap:=h',toks:=a}):
  ∀(k i:Nat) (j:Int) (t:Tok) (h:bo) (a:Nat) (kvs:List (Int×an)),ps.length=i+k->kG h0 h->h.IsListIter it l i->h.DictOf (iH prog w) d kvs->qw kvs (ps.take i)->
   zp (lS prog w) A (.builtin "dict.update.loop" ⟨[.ref d,.ref it,.int j t,.none],[]⟩) R {s with heap:=h,toks:=a}:=by
 intro k
 induction k with
 |zero=>
  intro i j t h a kvs hi hk hit hd g
  have hl:h.IsList l vs.toArray:=hD.ls.elim λo ho=>⟨o,hk _ _ ho.1,ho.2⟩
  have e:vs.toArray[i]? =none:=by rw[Mn];exact Mu (by rw[hD.len,hi];exact cR _)
  refine codeAny_builtin HY ?_
  rw[XJ xz _]
  show cW _ A.in1 (tH (.ref it)>>=_) _ _ _
  refine bN (Xq hA hit hl e λh2 hs=>?_)
  refine bN (dq (dq (hR h2 a kvs (λb o hb=>hs b o (λf=>hD.ni o (f▸hb)) (hk b o hb)) ?_ ?_)))
  ·exact hd.extBut hs hD.ne.symm
  ·rwa[e9 (i:=i) (iK hi)]at g
 |succ k B=>
  intro i j t h a kvs hi hk hit hd g
  have hl:h.IsList l vs.toArray:=hD.ls.elim λo ho=>⟨o,hk _ _ ho.1,ho.2⟩
  have v:i<vs.length:=by simp only[hD.len,hi];lia
  refine aj λD=>?_
  obtain⟨y,o,key,u,b,n,C,ho,hc,p,hp⟩:=hD.at_ i _ (kT v)
  refine D ?_
  refine codeAny_builtin HY ?_
  rw[XJ xz _]
  show cW _ A.in1 (tH (.ref it)>>=_) _ _ _
  refine bN (Xp hit hl (x:=.ref y) (by simp only[Mn,kT v,C]) λh2 c hs=>?_)
  have m:kG h0 h2:=λb o hb=>(hs.2 b λf=>hD.ni o (f▸hb)).trans (hk b o hb)
  have hd2:h2.DictOf (iH prog w) d kvs:=hd.sameBut hs hD.ne.symm
  have hk3:kG h0 h2:=m
  refine bN (tD (bN (wpAny_tryCatch ?_)))
  refine bN (wpAny_typeOf (T:="tuple") ⟨o,m _ _ ho,hc⟩ ?_)
  rw[if_pos (by rfl)]
  refine bN (wpAny_seqItems (m _ _ ho) p (dq ?_))
  refine tD (wpAny_dictSet_pairs (intKind_is prog w key u) hd2 (λh3 q z=>?_) (by have :=g.len;simp only[kX]at this;lia))
  refine dq ⟨plainId_quiet xz _,?_⟩
  refine B (i+1) (j+1) 0 h3 _ _ (by rw[hi];lia) (λb o hb=>(z.2 b λf=>hD.nd o (f▸hb)).trans (m b o hb)) ?_ q ?_
  ·obtain⟨o,ho,r⟩:=c;exact⟨o,(z.2 it hD.ne).trans ho,r⟩
  ·have e:ps.take (i+1)=ps.take i++[(key,b)]:=by rw[gS,hp];rfl
   simp only[e];exact g.put key b
theorem QI{l:aw}{ps:List (Int×Bool)}{Q:an->bt->Prop}(hA:A.handled=none){n:Nat}(hl:s.heap.get? l=some {cls:=.type "list",dict:=none,data:=.seq vs.toArray n,slots:=#[]})
  (hlen:vs.length=ps.length) (hz:ps.length<bO) (x: ∀(i:Nat) (v:an),vs[i]? =some v->∃t o k u b n,v=wp t/\s.heap.get? t=some o/\o.cls= .type "tuple"/\o.data= .seq #[.int k u,.bool b] n/\ps[i]? =some (k,b))
  (h: ∀h' f d kvs,kG s.heap h'->s.heap.objs.size=d->h'.DictOf (iH prog w) d kvs->qw kvs ps->Q (.ref d) {s with heap:=h',toks:=f}):
  cW (lS prog w) A (call (.type "dict") [.ref l]) Q E s:=by
 refine callType_codes (Q₁:=λobj j=>obj= .ref s.heap.objs.size/\j={s with heap:=s.heap.push {cls:=.type "dict",data:=.dict #[]}}) F.kt_called_dict (F.kt_typeCall_dict_1 _) F.entry_dict_init (kt_code_dict_new _ ⟨rfl,rfl⟩) ?_
 rintro obj j ⟨rfl,rfl⟩
 have c:(s.heap.push {cls:=.type "dict",data:=.dict #[]}).DictOf (iH prog w) s.heap.objs.size []:=Heap.DictOf.new s.heap
 have a:=jZ {cls:=.type "dict",data:=.dict #[]} hl
 refine⟨c.typeIs,F.args_dict_init_2 _ _,?_⟩
 unfold Builtin.«dict.__init__»
 refine bN ?_
 refine bN (wpAny_notOrdered_dict c.typeIs ?_)
 refine dq ?_
 show cW _ _ (Builtin.Dict.updateFrom "dict.__init__" s.heap.objs.size (.ref l) [] .none) _ _ _
 refine bN (wpAny_typeOf (T:="list") ⟨_,a,rfl⟩ ?_)
 rw[if_pos (by rfl)]
 refine bN (UQ a hA λh1 f hk=>?_)
 rw[if_pos (by rfl)]
 refine bN (EO (bN (Md ⟨_,hk _ _ a,rfl,_,rfl⟩ (dq ⟨plainId_quiet xz _,?_⟩))))
 have g:kG s.heap h1:=λb o hb=>hk b o (jZ _ hb)
 have m:s.heap.objs.size<h1.objs.size:=gm (hk _ _ (tC _ rfl))
 have k2:kG s.heap (h1.push {cls:=.type "list_iterator",data:=.fields #[.ref l,.int 0 0]}):=λb o hb=>jZ _ (g b o hb)
 refine Pd (s:=s) (A:=A.in1) (R:=wants (λr p=>r=zx/\Q (wp s.heap.objs.size) p) E) (h0:=s.heap) (it:=h1.objs.size) (l:=l) ⟨λo e=>qJ o (g _ _ e),qJ,zB m,⟨_,hl,rfl,_,rfl⟩,hlen,x⟩ hz hA (λh' aU kvs a1 a2 a3=>⟨rfl,h h' aU _ kvs a1 rfl a2 a3⟩)
  ps.length 0 0 0 _ _ [] (rk _).symm k2 ⟨_,tC _ rfl,rfl,rfl⟩ ?_ ⟨λk=>⟨λh=>absurd h gT,λh=>h.elim λb h=>absurd h gT⟩,dx _⟩
 refine aj λq=>?_
 obtain⟨o,es,ep,ho,r⟩:=c
 refine q ?_
 exact⟨o,es,ep,jZ _ (hk _ _ ho),r⟩
theorem FY: ∀{vs:List an} {ns:List Int},vs.length=ns.length->(∀(j:Nat) (v:an),vs[j]? =some v->∃n t,ns[j]? =some n/\v= .int n t)->jc vs ns
 | [],[],_,_=>.nil
 |v::vs,n::ns,h,a=>by
  obtain⟨m,t,e,rfl⟩:=a 0 v rfl
  cases e
  exact .cons _ t (FY (Nat.succ.inj h) λj v e=>a (j+1) v e)
theorem V4{d:aw}{kvs:List (Int×an)}{Q:an->bt->Prop}(hA:A.handled=none)(hd:s.heap.DictOf (iH prog w) d kvs)(lo:(d==EP)=false)(hz:kvs.length<=bO)
  (h: ∀h' a b us c ms,kG s.heap h'->(∀o,s.heap.get? b≠some o)->h'.get? b=some (p4 "list" us c)->jc us.toList ms->ms.Perm (kvs.map ai)->(kvs.length<64->ms.Pairwise (· <= ·))->Q (.ref b) {s with heap:=h',toks:=a}):
  cW (lS prog w) A (call (.builtin "sorted") [.ref d]) Q E s:=by
 refine aj λf=>?_
 obtain⟨o,es,ep,g⟩:=hd
 refine f ?_
 refine Ie (ns:=kvs.map ai) (by rw[bi];exact hz) (λQ' hq=>kdu_collect (kdl_dict (knd:=iH prog w) (kvs:=kvs) (ep:=ep) lo) hA ⟨o,es,g⟩ hz λh' a acc hk hi=>hq h' a _ hk ?_) (by rw[bi];exact h)
 refine FY (by simp only[XG,hi.1,bi]) λj v e=>?_
 rw[Fl]at e
 refine aj λf=>?_
 obtain⟨k,x,h1,h2⟩:=hi.2 j v e
 obtain⟨t,rfl⟩:=Value.isInt_shape h2
 refine f ?_
 exact⟨k,t,by rw[jd,h1];rfl,rfl⟩
end
section
variable {G:aK} {d:Nat} {Γ:Fm} {S:St}
theorem SA{H:PM}{h:bo}(hf: ∀a o,H a=some o->h.get? a=some o): ∀{ps:List (Int×Bool)} {vs:List an},aF H (ps.map λx=>.tup [.int x.1,.bool x.2]) vs->
  ∀(i:Nat) (v:an),vs[i]? =some v->∃t o k u b n,v=wp t/\h.get? t=some o/\o.cls= .type "tuple"/\o.data= .seq #[.int k u,.bool b] n/\ps[i]? =some (k,b):=by
 intro ps
 induction ps with
 |nil=>intro vs hr i v e;rw[show vs=[]from hr]at e;cases e
 |cons p ps f=>
  intro vs hr i v e
  obtain⟨x,xs,rfl,hx,d⟩:=hr
  induction i with
  |succ i=>exact f d i v e
  |zero=>
   refine aj λg=>?_
   obtain⟨t,ws,o,rfl,ho,hc,y,ys,rfl,⟨u,rfl⟩,z,zs,rfl,rfl,rfl⟩:=hx
   refine g ?_
   cases e
   obtain⟨c,n,hd⟩:=hc
   exact⟨t,o,p.1,u,p.2,n,rfl,hf _ _ ho,c,hd,rfl⟩
theorem Oq{ms ks:List Int}(h:ms.Perm ks)(hn:ks.Nodup)(hs:ms.Pairwise (· <= ·)):ms.Pairwise (· < ·):=(hs.and (h.nodup_iff.mpr hn)).imp λh=>rq.mpr h
theorem b5.sortedDict{p p2 pos rL:ax}{e:Expr}{Q:aw->List T->St->Prop}(hg:cI G "sorted" (.builtin "sorted"))(X:cI G "dict" (.type "dict"))(hk:Γ.env.kindOf "sorted"=some .globalImplicit)(N:Γ.env.kindOf "dict"=some .globalImplicit)(hp:bh e=true)
  (h:Ev G d Γ S e λt S1=>∃ps:List (Int×Bool),t= .list (ps.map λx=>.tup [.int x.1,.bool x.2])/\ps.length<64/\∀ms:List Int,ms.Pairwise (· < ·)->(∀k,k∈ms↔∃b,(k,b)∈ps)->∀a,Q a (ms.map .int) S1):
  b5 G d Γ S (.Call (.Name "sorted" p) [.Call (.Name "dict" p2) [e] [] rL] [] pos) Q:=by
 intro H led hs
 refine ae.bind (ae.gname hs hg hk (by decide) ?_)
 refine ae.callBuiltin (.b _) rfl (ae.spliced_cons rfl ?_)
 refine ae.bind (ae.gname hs X N (by decide) ?_)
 refine ae.callBuiltin (.t _) (by simp only[rd,hp];rfl) (ae.spliced_cons hp ((h H led hs).mono λv H' l le U=>ae.pure ?_))
 refine aj λE=>?_
 obtain⟨t,S1,rt,s1,ps,rfl,hlen,q⟩:=U
 obtain⟨a,vs,o,rfl,ha,ho,hz,rs⟩:=rt.list
 refine E ?_
 have hl:vs.length=ps.length:=rs.length.trans (bi _)
 refine(ae.frame (fr:=l) (ae.growO (led:=[]) (P:=λv D ob=>v= .ref D/\(D==EP)=false/\∃kvs,qw kvs ps/\∀h:bo,h.get? D=some ob->h.DictOf (iH G.prog G.w) D kvs) λA s ok hp L hf hb I=>?_)).mono λv H2 l2 W z=>ae.pure ?_
 ·obtain⟨n,rfl⟩:=ho
  refine QI ok.1 (hf _ _ ha) hl (dr hlen (by rw[eA];decide)) (SA hf rs) λh' aU D kvs y k2 u m=>?_
  refine aj λE=>?_
  obtain⟨f,es,ep,B,r⟩:=u
  obtain⟨om,_,_,em,_⟩:=G.top.g
  refine E ?_
  refine⟨h',aU,D,f,y,rfl,k2▸qJ,B,rfl,?_,kvs,m,λh e=>⟨f,es,ep,e,r⟩⟩
  exact beq_eq_false_iff_ne.mpr (zB (k2▸zC HT (gm (hb _ _ em))))
 ·obtain⟨l',rfl,rfl,D,f,rfl,rfl,lo,kvs,F,hD⟩:=z
  have i:kvs.length<64:=d7 F.len hlen
  refine ae.srt (led0:=[(D,f)]) (led:=l) (C:=λms=>ms.Pairwise (· < ·)/\∀k,k∈ms↔∃b,(k,b)∈ps) (ae.growE λA s ok hp L hf I J=>?_) λms c a vs o H3 O r k z=>⟨a,vs,o,_,S1,l,rfl,r,k,z,rfl,s1.mono (W.trans O),q ms c.1 c.2 a⟩
  have hd:=hD hp (J (D,f) (bC.mpr rfl))
  refine V4 ok.1 hd lo (aZ (eP i) (by rw[eA];decide)) λh' aU b us c ms y k2 u m j M=>⟨_,⟨ms,rfl,?_,λk=>j.mem_iff.trans (F.mem k)⟩,h',aU,b,us.toList,_,y,rfl,rfl,k2,u,⟨c,rfl⟩,?_,aF.ofInts m⟩
  ·obtain⟨_,_,_,_,_,_,_,_,hn⟩:=hd
   exact Oq j hn (M i)
  ·simp only[bi,j.length_eq,bi,eA];exact aZ (eP i) (by decide)
end
end
section
variable {G:aK} {d:Nat} {Γ:Fm} {S:St}
inductive K where
 |I|B|R|P|W|M|D'
noncomputable abbrev K.D:K->Type
 | .I=>Int
 | .B=>Bool
 | .R=>Int×Int
 | .P=>List Int
 | .W=>(Int×Int)×(Int×Int)
 | .M=>(Int×Int)×Int
 | .D'=>Int×Bool
inductive V where
 |no
 |b (x:Bool)
 |i (x:Int)
 |s (x:ag)
 |t2 (x y:V)
 |t3 (x y z:V)
 |l (k:K) (xs:List k.D)
noncomputable abbrev rT(p:Int×Int):T:=.tup [.int p.1,.int p.2]
noncomputable abbrev rV(p:Int×Int):V:=.t2 (.i p.1) (.i p.2)
noncomputable def K.toT:(k:K)->k.D->T
 | .I,x=>.int x
 | .B,x=>.bool x
 | .R,x=>rT x
 | .P,x=>.list (bS T.int x)
 | .W,x=>.tup [rT x.1,rT x.2]
 | .M,x=>.tup [rT x.1,.int x.2]
 | .D',x=>.tup [.int x.1,.bool x.2]
noncomputable def K.toV:(k:K)->k.D->V
 | .I,x=>.i x
 | .B,x=>.b x
 | .R,x=>rV x
 | .P,x=>.l .I x
 | .W,x=>.t2 (rV x.1) (rV x.2)
 | .M,x=>.t2 (rV x.1) (.i x.2)
 | .D',x=>.t2 (.i x.1) (.b x.2)
noncomputable def V.t:V->T
 | .no=>.none
 | .b x=>.bool x
 | .i x=>.int x
 | .s x=>.str x
 | .t2 x y=>.tup [x.t,y.t]
 | .t3 x y z=>.tup [x.t,y.t,z.t]
 | .l k xs=>.list (xs.map k.toT)
theorem K.vt:(k:K)->(x:k.D)->(k.toV x).t=k.toT x
 | .I,_=>rfl
 | .B,_=>rfl
 | .R,_=>rfl
 | .P,_=>rfl
 | .W,_=>rfl
 | .M,_=>rfl
 | .D',_=>rfl
noncomputable def V.asI(v:V):Option Int:=match v with
 | .i x=>some x
 |_=>none
noncomputable def V.asB(v:V):Option Bool:=match v with
 | .b x=>some x
 |_=>none
noncomputable def V.as2(v:V):Option (V×V):=match v with
 | .t2 x y=>some (x,y)
 |_=>none
noncomputable def K.ints(k:K):List k.D->Option (List Int):=match k with
 | .I=>some
 |_=>λz_=>none
noncomputable def V.asL(v:V):Option (List Int):=match v with
 | .l k xs=>k.ints xs
 |_=>none
noncomputable def V.asR(v:V):Option (Int×Int):=v.as2.bind λp=>p.1.asI.bind λa=>p.2.asI.bind λc=>some (a,c)
theorem V.asI_eq{v:V}{x:Int}(h:v.asI=some x):v= .i x:=by cases v<;>cases h;rfl
theorem V.asB_eq{v:V}{x:Bool}(h:v.asB=some x):v= .b x:=by cases v<;>cases h;rfl
theorem V.as2_eq{v:V}{x:V×V}(h:v.as2=some x):v= .t2 x.1 x.2:=by cases v<;>cases h;rfl
theorem V.asL_eq{v:V}{x:List Int}(h:v.asL=some x):v= .l .I x:=by
 induction v with
 |l k xs=>cases k<;>cases h;rfl
 |_=>cases h
theorem V.asR_eq{v:V}{x:Int×Int}(h:v.asR=some x):v=rV x:=by
 obtain⟨p,h1,h⟩:=iL.mp h
 obtain⟨a,h2,h⟩:=iL.mp h
 obtain⟨c,h3,h⟩:=iL.mp h
 cases h
 simp only[V.as2_eq h1,V.asI_eq h2,V.asI_eq h3]
noncomputable def K.of(k:K):V->Option k.D:=match k with
 | .I=>V.asI
 | .B=>V.asB
 | .R=>V.asR
 | .P=>V.asL
 | .W=>λv=>v.as2.bind λp=>p.1.asR.bind λa=>p.2.asR.bind λc=>some (a,c)
 | .M=>λv=>v.as2.bind λp=>p.1.asR.bind λa=>p.2.asI.bind λc=>some (a,c)
 | .D'=>λv=>v.as2.bind λp=>p.1.asI.bind λa=>p.2.asB.bind λc=>some (a,c)
theorem K.of_t:{k:K}->{v:V}->{x:k.D}->k.of v=some x->v.t=k.toT x
 | .I,v,x,h=>by simp only[V.asI_eq h];rfl
 | .B,v,x,h=>by simp only[V.asB_eq h];rfl
 | .R,v,x,h=>by simp only[V.asR_eq h];rfl
 | .P,v,x,h=>by simp only[V.asL_eq h];rfl
 | .W,v,x,h=>by
  obtain⟨p,h1,h⟩:=iL.mp h
  obtain⟨a,h2,h⟩:=iL.mp h
  obtain⟨c,h3,h⟩:=iL.mp h
  cases h
  simp only[V.as2_eq h1,V.asR_eq h2,V.asR_eq h3];rfl
 | .M,v,x,h=>by
  obtain⟨p,h1,h⟩:=iL.mp h
  obtain⟨a,h2,h⟩:=iL.mp h
  obtain⟨c,h3,h⟩:=iL.mp h
  cases h
  simp only[V.as2_eq h1,V.asR_eq h2,V.asI_eq h3];rfl
 | .D',v,x,h=>by
  obtain⟨p,h1,h⟩:=iL.mp h
  obtain⟨a,h2,h⟩:=iL.mp h
  obtain⟨c,h3,h⟩:=iL.mp h
  cases h
  simp only[V.as2_eq h1,V.asI_eq h2,V.asB_eq h3];rfl
inductive Sl where
 |any
 |val (v:V)
 |own (k:K) (xs:List k.D)
 |dct (ks:List (Int×Int))
 |bx (a:aw)
noncomputable abbrev SL:=List (ag×Sl)
structure Sg where
 l:SL
 c:SL
def jn(ts:List T):Prop:=∃(xs:List Int) (k:Int),ts=[.list (xs.map .int),.int k]/\0<=k
inductive fg:Sl->Slot->Prop
 |any {s}:fg .any s
 |val {v t}:t=v.t->fg (.val v) (.val t)
 |own {k} {xs:List k.D} {a ts}:ts=xs.map k.toT->fg (.own k xs) (.own a ts)
 |dct {ks a}:fg (.dct ks) (.dct a ks)
 |bx {a ts}:jn ts->fg (.bx a) (.own a ts)
inductive dJ:SL->cL->Prop
 |nil:dJ [] []
 |cons {x:ag} {s:Sl} {t:Slot} {σ:SL} {l:cL}:fg s t->dJ σ l->dJ ((x,s)::σ) ((x,t)::l)
structure aN(σ:Sg)(S:St):Prop where
 l:dJ σ.l S.l
 c:dJ σ.c S.c
noncomputable def fM(σ:SL)(x:ag):Option Sl:=List.rec (motive:=λa=>Option Sl) none (λp a b=>bif p.1==x then some p.2 else b) σ
noncomputable def fO(σ:SL)(x:ag)(b:Sl):SL:=List.rec (motive:=λz_=>SL) [] (λp r a=>bif p.1==x then(p.1,b)::r else p::a) σ
theorem dJ.keys{σ:SL}{l:cL}(h:dJ σ l):σ.map ai=l.map ai:=by
 induction h with
 |nil=>rfl
 |cons _ _ a=>simp only[gr,gr,a]
inductive V6(x:ag)(a:Sl)(σ:SL)(l:cL):Prop
 |mk (s:Slot) (m:fg a s) (k: ∀s',∃l',At l x s s' l'/\∀b,fg b s'->dJ (fO σ x b) l')
theorem dJ.get{x:ag}{a:Sl}{σ:SL}{l:cL}(m:dJ σ l):fM σ x=some a->V6 x a σ l:=by
 induction m with
 |nil=>intro h;cases h
 | @cons y s t σ l hs hm c=>
  intro h
  have h2:(bif y==x then some s else fM σ x)=some a:=h
  have e2: ∀b,fO ((y,s)::σ) x b=bif y==x then(y,b)::σ else(y,s)::fO σ x b:=λb=>rfl
  cases hq:y==x with
  |true=>
   rw[hq]at h2
   obtain rfl:=tJ h2
   obtain rfl:=beq_iff_eq.mp hq
   exact⟨t,hs,λs'=>⟨_,.head,λb hb=>by rw[e2,hq];exact .cons hb hm⟩⟩
  |false=>
   rw[hq]at h2
   obtain⟨s0,e,k⟩:=c h2
   refine⟨s0,e,λs'=>?_⟩
   refine aj λf=>?_
   obtain⟨l',g,d⟩:=k s'
   refine f ?_
   exact⟨_,.tail g,λb hb=>by rw[e2,hq];exact .cons hs (d b hb)⟩
theorem fg.isVal{v:V}{s:Slot}(h:fg (.val v) s):s= .val v.t:=by cases h with |val e=>rw[e]
inductive PV(k:K)(xs:List k.D)(s:Slot):Prop
 |mk (a:aw) (e:s= .own a (xs.map k.toT))
theorem fg.isOwn{k:K}{xs:List k.D}{s:Slot}(h:fg (.own k xs) s):PV k xs s:=by cases h with |own e=>exact⟨_,by rw[e]⟩
theorem fg.isDct{ks:List (Int×Int)}{s:Slot}(h:fg (.dct ks) s): ∃a,s= .dct a ks:=by cases h with |dct=>exact⟨_,rfl⟩
theorem fg.isBx{a:aw}{s:Slot}(h:fg (.bx a) s): ∃ts,s= .own a ts/\jn ts:=by cases h with |bx e=>exact⟨_,rfl,e⟩
theorem At.self{σ σ':cL}{x:ag}{s s':Slot}(h:At σ x s s' σ'):At σ x s s σ:=by
 induction h with
 |head=>exact .head
 |tail _ a=>exact .tail a
theorem At.refl'{σ σ':cL}{x:ag}{s s':Slot}(h:At σ x s s' σ'):At σ' x s' s' σ':=by
 induction h with
 |head=>exact .head
 |tail _ a=>exact .tail a
noncomputable abbrev NM:=List (ag×d6)
noncomputable def nd(x:ag):Bool:= !(x==("__debug__":ag))
theorem qv{x:ag}(h:nd x=true):(x==("__debug__":ag))=false:=by simpa [nd]using h
theorem m7{nm:NM}{x:ag}{j:d6}(hn:Γ.env.scope.names=nm)(h:dz (nm.lookup x) j=true):Γ.env.kindOf x=some j:=by unfold zt;rw[hn];exact ql h
noncomputable def iP(nm:NM)(x:ag):Bool:=dz (nm.lookup x) .globalImplicit&&nd x
theorem kq{nm:NM}{x:ag}(hn:Γ.env.scope.names=nm)(h:iP nm x=true):Γ.env.kindOf x=some .globalImplicit/\(x==("__debug__":ag))=false:=by
 unfold iP at h
 simp only[cO]at h
 exact⟨m7 hn h.1,qv h.2⟩
noncomputable def xE(nm:NM)(x:ag):Bool:=dz (nm.lookup x) .free&& !(x==("__classdict__":ag))
def mA(σ:Sg)(x:ag)(L C:Sl->Prop)(o:Prop):Prop:=match fM σ.l x with
 |some a=>L a
 |none=>match fM σ.c x with
  |some a=>C a
  |none=>o
inductive RW(σ:Sg)(S:St)(x:ag)(L C:Sl->Prop)(o:Prop):Prop
 |l (a:Sl) (s:Slot) (q:fM σ.l x=some a) (m:fg a s) (k: ∀s',∃l',At S.l x s s' l'/\∀b,fg b s'->aN ⟨fO σ.l x b,σ.c⟩ ⟨l',S.c⟩) (h:L a)
 |c (a:Sl) (s:Slot) (q0:fM σ.l x=none) (q:fM σ.c x=some a) (m:fg a s) (k: ∀s',∃l',At S.c x s s' l'/\∀b,fg b s'->aN ⟨σ.l,fO σ.c x b⟩ ⟨S.l,l'⟩) (h:C a)
 |no (h:o)
theorem p9{σ:Sg}{x:ag}{L C:Sl->Prop}{o:Prop}(hs:aN σ S)(h:mA σ x L C o):RW σ S x L C o:=by
 unfold mA at h
 cases q:fM σ.l x with
 |some a=>
  simp only[q]at h
  obtain⟨s,m,k⟩:=hs.l.get q
  exact .l a s q m (λs'=>let⟨l',d,f⟩:=k s';⟨l',d,λb hb=>⟨f b hb,hs.c⟩⟩) h
 |none=>
  simp only[q]at h
  cases q2:fM σ.c x with
  |none=>simp only[q2]at h;exact .no h
  |some a=>
   simp only[q2]at h
   obtain⟨s,m,k⟩:=hs.c.get q2
   exact .c a s q q2 m (λs'=>let⟨l',d,f⟩:=k s';⟨l',d,λb hb=>⟨hs.l,f b hb⟩⟩) h
theorem cQ{c:Bool}{P:Prop}(h:bif c then P else False):c=true/\P:=by cases c<;>first |exact h.elim|exact⟨rfl,h⟩
theorem JP{nm:NM}{x:ag}(hn:Γ.env.scope.names=nm)(c:(nd x&&(dz (nm.lookup x) .cell ||xE nm x))=true){pos:ax}{t:T}{Q:T->St->Prop}(a:At S.c x (.val t) (.val t) S.c)(q:Q t S):Ev G d Γ S (.Name x pos) Q:=by
 simp only[cO,v9]at c
 rcases c.2 with z|z
 ·exact Ev.nameC a q (m7 hn z) (qv c.1)
 ·unfold xE at z
  simp only[cO,zo]at z
  exact Ev.nameF a q (m7 hn z.1) (qv c.1) z.2
def VF(σ:Sg)(x:ag)(Q:V->Sg->Prop)(a:Sl):Prop:=match a with
 | .val v=>Q v σ
 | .own k xs=>Q (.l k xs) ⟨fO σ.l x (.val (.l k xs)),σ.c⟩
 |_=>False
def SQ(nm:NM)(σ:Sg)(x:ag)(Q:V->Sg->Prop)(a:Sl):Prop:=match a with
 | .val v=>bif nd x&&(dz (nm.lookup x) .cell ||xE nm x)then Q v σ else False
 | .own k xs=>bif nd x&&dz (nm.lookup x) .cell then Q (.l k xs) ⟨σ.l,fO σ.c x (.val (.l k xs))⟩else False
 |_=>False
def Hm(nm:NM)(σ:Sg)(x:ag)(Q:V->Sg->Prop)(other:Prop):Prop:=mA σ x (VF σ x Q) (SQ nm σ x Q) other
inductive WP(Q:V->Sg->Prop)(t:T)(S:St):Prop
 |mk (v:V) (σ:Sg) (e:t=v.t) (s:aN σ S) (q:Q v σ)
theorem RU{nm:NM}{σ:Sg}{x:ag}{pos:ax}{Q:V->Sg->Prop}{other:Prop}(hn:Γ.env.scope.names=nm)(hs:aN σ S)(h:Hm nm σ x Q other)(ho:other->Ev G d Γ S (.Name x pos) (WP Q)):Ev G d Γ S (.Name x pos) (WP Q):=by
 rcases p9 hs h with⟨a,s,_,m,k,h⟩|⟨a,s,_,_,m,k,h⟩|h
 ·induction a with
  |val v=>
   rw[m.isVal]at k
   exact Ev.name (k .any).choose_spec.1.self ⟨v,σ,rfl,hs,h⟩
  |own b xs=>
   obtain⟨ad,e⟩:=m.isOwn
   rw[e]at k
   obtain⟨l',f,k'⟩:=k (.val (.list (xs.map b.toT)))
   exact Ev.nameOwn f f.refl' ⟨.l b xs,_,rfl,k' _ (.val rfl),h⟩
  |_=>exact h.elim
 ·induction a with
  |val v=>
   refine aj λg=>?_
   obtain⟨c,h⟩:=cQ h
   refine g ?_
   rw[m.isVal]at k
   exact JP hn c (k .any).choose_spec.1.self ⟨v,σ,rfl,hs,h⟩
  |own b xs=>
   obtain⟨c,h⟩:=cQ h
   simp only[cO]at c
   obtain⟨ad,e⟩:=m.isOwn
   rw[e]at k
   obtain⟨l',f,k'⟩:=k (.val (.list (xs.map b.toT)))
   exact Ev.nameOwnC f f.refl' ⟨.l b xs,_,rfl,k' _ (.val rfl),h⟩ (m7 hn c.2) (qv c.1)
  |_=>exact h.elim
 ·exact ho h
def PK(Q:(k:K)->List k.D->Prop)(other:Prop)(a:Sl):Prop:=match a with
 | .own k xs=>Q k xs
 |_=>other
def Xi(nm:NM)(x:ag)(Q:(k:K)->List k.D->Prop)(other:Prop)(a:Sl):Prop:=match a with
 | .own k xs=>bif nd x&&dz (nm.lookup x) .cell then Q k xs else False
 |_=>other
def hO(nm:NM)(σ:Sg)(x:ag)(Q:(k:K)->List k.D->Prop)(other:Prop):Prop:=mA σ x (PK Q other) (Xi nm x Q other) other
noncomputable def mw(σ:Sg)(x:ag)(k:K)(xs:List k.D):Sg:=match fM σ.l x with
 |some _=>⟨fO σ.l x (.own k xs),σ.c⟩
 |none=>⟨σ.l,fO σ.c x (.own k xs)⟩
inductive Os(Γ:Fm)(S:St)(σ:Sg)(x:ag)(k:K)(xs:List k.D):Prop
 |mk (a:aw) (R:List T->St->Prop) (o:dp Γ S x a (xs.map k.toT)) (m:iW Γ S x a (xs.map k.toT) R) (w: ∀k' (ys:List k'.D),∃S',R (ys.map k'.toT) S'/\aN (mw σ x k' ys) S')
theorem mh{nm:NM}{σ:Sg}{x:ag}{Q:(k:K)->List k.D->Prop}{other:Prop}{P:Prop}(hn:Γ.env.scope.names=nm)(hs:aN σ S)(h:hO nm σ x Q other)(ho:other->P)(hq: ∀k xs,Os Γ S σ x k xs->Q k xs->P):P:=by
 rcases p9 hs h with⟨a,s,q,m,k,h⟩|⟨a,s,q,_,m,k,h⟩|h
 ·induction a with
  |own f xs=>
   obtain⟨ad,e⟩:=m.isOwn
   rw[e]at k
   have b:=(k .any).choose_spec.1.self
   refine hq f xs ⟨ad,_,.l b,.l b,λk2 ys=>?_⟩ h
   obtain⟨l2,d,g⟩:=k (.own ad (ys.map k2.toT))
   exact⟨_,⟨l2,d,rfl⟩,by unfold mw;rw[q];exact g _ (.own rfl)⟩
  |_=>exact ho h
 ·induction a with
  |own f xs=>
   obtain⟨c,h⟩:=cQ h
   simp only[cO]at c
   obtain⟨ad,e⟩:=m.isOwn
   rw[e]at k
   have b:=(k .any).choose_spec.1.self
   refine hq f xs ⟨ad,_,.c b (m7 hn c.2) (qv c.1),.c b,λk2 ys=>?_⟩ h
   obtain⟨l2,d,g⟩:=k (.own ad (ys.map k2.toT))
   exact⟨_,⟨l2,d,rfl⟩,by unfold mw;rw[q];exact g _ (.own rfl)⟩
  |_=>exact ho h
 ·exact ho h
set_option genCtorIdx false in
inductive fw where
 |fr (v:V)
 |ow (k:K) (xs:List k.D)
 |dc (ks:List (Int×Int))
 |bx (a:aw)
noncomputable def fw.s:fw->Sl
 | .fr v=>.val v
 | .ow k xs=>.own k xs
 | .dc ks=>.dct ks
 | .bx a=>.bx a
inductive RM:fw->R->Prop
 |fr {v t}:t=v.t->RM (.fr v) (.fr t)
 |ow {k} {xs:List k.D} {a ts}:ts=xs.map k.toT->RM (.ow k xs) (.ow a ts)
 |dc {ks a}:RM (.dc ks) (.dc a ks)
 |bx {a ts}:jn ts->RM (.bx a) (.ow a ts)
def jR(nm:NM)(σ:Sg)(x:ag)(r:fw)(Q:Sg->Prop):Prop:=mA σ x (λa=>Q ⟨fO σ.l x r.s,σ.c⟩) (λa=>bif dz (nm.lookup x) .cell then Q ⟨σ.l,fO σ.c x r.s⟩else False) False
noncomputable def R.slot:R->Slot
 | .fr t=>.val t
 | .ow a ts=>.own a ts
 | .dc a ks=>.dct a ks
theorem RM.slot{v:fw}{r:R}(h:RM v r):fg v.s r.slot:=by
 induction h with
 |fr e=>exact .val e
 |ow e=>exact .own e
 |dc=>exact .dct
 |bx e=>exact .bx e
theorem ee.locals{x:ag}{r:R}{l':cL}{s:Slot}(b:At S.l x s r.slot l'):ee Γ S x r ⟨l',S.c⟩:=by
 induction r with
 |fr t=>exact .lf b
 |ow a ts=>exact .lo b
 |dc a ks=>exact .ld b
theorem ee.cells{x:ag}{r:R}{l':cL}{s:Slot}(b:At S.c x s r.slot l')(hk:Γ.env.kindOf x=some .cell):ee Γ S x r ⟨S.l,l'⟩:=by
 induction r with
 |fr t=>exact .cf b hk
 |ow a ts=>exact .co b hk
 |dc a ks=>exact .cd b hk
inductive RZ(Γ:Fm)(S:St)(x:ag)(r:R)(Q:Sg->Prop):Prop
 |mk (S':St) (σ':Sg) (p:ee Γ S x r S') (s:aN σ' S') (q:Q σ')
theorem xW{nm:NM}{σ:Sg}{x:ag}{v:fw}{r:R}{Q:Sg->Prop}(hn:Γ.env.scope.names=nm)(hs:aN σ S)(hr:RM v r)(h:jR nm σ x v Q):RZ Γ S x r Q:=by
 rcases p9 hs h with⟨a,s,_,m,k,h⟩|⟨a,s,_,_,m,k,h⟩|h
 ·obtain⟨l',b,k'⟩:=k r.slot
  exact⟨_,_,.locals b,k' _ hr.slot,h⟩
 ·obtain⟨c,h⟩:=cQ h
  obtain⟨l',b,k'⟩:=k r.slot
  exact⟨_,_,.cells b (m7 hn c),k' _ hr.slot,h⟩
 ·exact h.elim
def F4(Q:V->Prop)(a:Sl):Prop:=match a with
 | .val v=>Q v
 |_=>False
def V8(nm:NM)(x:ag)(Q:V->Prop)(a:Sl):Prop:=match a with
 | .val v=>bif dz (nm.lookup x) .cell then Q v else False
 |_=>False
def Hx(nm:NM)(σ:Sg)(x:ag)(Q:V->Prop):Prop:=mA σ x (F4 Q) (V8 nm x Q) False
theorem UE{nm:NM}{σ:Sg}{x:ag}{Q:V->Prop}(hn:Γ.env.scope.names=nm)(hs:aN σ S)(h:Hx nm σ x Q): ∃v,uz Γ S x v.t/\Q v:=by
 rcases p9 hs h with⟨a,s,_,m,k,h⟩|⟨a,s,_,_,m,k,h⟩|h
 ·induction a with
  |val v=>rw[m.isVal]at k;exact⟨v,.l (k .any).choose_spec.1.self,h⟩
  |_=>exact h.elim
 ·induction a with
  |val v=>obtain⟨c,h⟩:=cQ h;rw[m.isVal]at k;exact⟨v,.c (k .any).choose_spec.1.self (m7 hn c),h⟩
  |_=>exact h.elim
 ·exact h.elim
noncomputable def isBx(a:Sl):Bool:=match a with
 | .bx _=>true
 |_=>false
noncomputable def wE(nm:NM)(σ:Sg)(x:ag):Bool:=match fM σ.l x with
 |some a=>isBx a
 |none=>match fM σ.c x with
  |some a=>isBx a&&(nd x&&dz (nm.lookup x) .cell)
  |none=>false
theorem Q8{nm:NM}{σ:Sg}{x:ag}(h:wE nm σ x=true):mA σ x (isBx · =true) (λa=>isBx a=true/\(nd x&&dz (nm.lookup x) .cell)=true) False:=by
 unfold wE at h
 unfold mA
 cases q:fM σ.l x with
 |some a=>rw[q]at h;exact h
 |none=>
  rw[q]at h
  cases q2:fM σ.c x with
  |some a=>rw[q2]at h;exact q9.mp h
  |none=>rw[q2]at h;exact rz h
inductive T0(Γ:Fm)(S:St)(σ:Sg)(x:ag):Prop
 |mk (a:aw) (ts:List T) (R:List T->St->Prop) (b:jn ts) (o:dp Γ S x a ts) (m:iW Γ S x a ts R) (w: ∀us,jn us->∃S',R us S'/\aN σ S')
theorem JZ{σ:SL}{x:ag}{b:Sl}(h:fM σ x=some b):fO σ x b=σ:=by
 induction σ with
 |nil=>cases h
 |cons p σ a=>
  have h2:(bif p.1==x then some p.2 else fM σ x)=some b:=h
  show(bif p.1==x then(p.1,b)::σ else p::fO σ x b)=p::σ
  cases hq:p.1==x with
  |true=>rw[hq]at h2;cases h2;rfl
  |false=>rw[hq]at h2;rw[a h2];rfl
theorem SO{nm:NM}{σ:Sg}{x:ag}(hn:Γ.env.scope.names=nm)(hs:aN σ S)(h:wE nm σ x=true):T0 Γ S σ x:=by
 rcases p9 hs (Q8 h)with⟨a,s,q,m,k,h⟩|⟨a,s,_,q,m,k,h⟩|h
 ·induction a with
  |bx a=>
   obtain⟨ts,e,b⟩:=m.isBx
   rw[e]at k
   have d:=(k .any).choose_spec.1.self
   refine⟨a,ts,_,b,.l d,.l d,λus g=>?_⟩
   obtain⟨l2,f,k2⟩:=k (.own a us)
   have :=k2 (.bx a) (.bx g)
   rw[JZ q]at this
   exact⟨_,⟨l2,f,rfl⟩,this⟩
  |_=>exact(rz h).elim
 ·induction a with
  |bx a=>
   obtain⟨ts,e,b⟩:=m.isBx
   rw[e]at k
   have c:=q9.mp h.2
   have d:=(k .any).choose_spec.1.self
   refine⟨a,ts,_,b,.c d (m7 hn c.2) (qv c.1),.c d,λus g=>?_⟩
   obtain⟨l2,f,k2⟩:=k (.own a us)
   have :=k2 (.bx a) (.bx g)
   rw[JZ q]at this
   exact⟨_,⟨l2,f,rfl⟩,this⟩
  |_=>exact(rz h.1).elim
 ·exact h.elim
def Sk(Q:List (Int×Int)->Prop)(a:Sl):Prop:=match a with
 | .dct ks=>Q ks
 |_=>False
def w9(σ:Sg)(x:ag)(Q:List (Int×Int)->Prop):Prop:=mA σ x (Sk Q) (λz_=>False) False
theorem GX{σ:Sg}{x:ag}{Q:List (Int×Int)->Prop}(hs:aN σ S)(h:w9 σ x Q): ∃ks a,Q ks/\At S.l x (.dct a ks) (.dct a ks) S.l/\∀b,∃l',At S.l x (.dct a ks) (.dct a b) l'/\aN ⟨fO σ.l x (.dct b),σ.c⟩ ⟨l',S.c⟩:=by
 rcases p9 hs h with⟨a,s,q,m,k,h⟩|⟨a,s,_,q,m,k,h⟩|h
 ·induction a with
  |dct ks=>
   obtain⟨ad,e⟩:=m.isDct
   rw[e]at k
   refine⟨ks,ad,h,(k .any).choose_spec.1.self,λb=>?_⟩
   refine aj λf=>?_
   obtain⟨l2,d,k2⟩:=k (.dct ad b)
   refine f ?_
   exact⟨l2,d,k2 _ .dct⟩
  |_=>exact h.elim
 ·exact h.elim
 ·exact h.elim
end
section
variable {G:aK} {d:Nat} {Γ:Fm} {S:St}
structure aO where
 s:NM->Sg->Expr->(V->Prop)->Prop
 e:NM->Sg->Expr->(V->Sg->Prop)->Prop
 o:NM->Sg->Expr->((k:K)->List k.D->Sg->Prop)->Prop
 t:NM->Sg->Expr->(Bool->Sg->Prop)->Prop
structure bK where
 fns:ag->Bool
 spec:ag->List V->(V->Prop)->Prop
 specB:ag->List V->(V->Prop)->Prop
 glob:ag->Option V
inductive CP(Q:V->Prop)(t:T):Prop
 |mk (v:V) (e:t=v.t) (q:Q v)
structure bU(G:aK)(P:bK)(D:Nat):Prop where
 fns: ∀f,P.fns f=true->rN G f
 spec: ∀f vs Q d,P.spec f vs Q->D<=d->gh G d f (vs.map V.t) (CP Q)
 specB: ∀f vs Q d bs,P.specB f vs Q->D<=d->jn bs->sI G d f bs (vs.map V.t) λt cx=>jn cx/\CP Q t
 glob: ∀x v,P.glob x=some v->∃w,cI G x w/\∀H:PM,(∀a o,G.hB.get? a=some o->H a=some o)->VR H v.t w
 len:cI G "len" (.builtin "len")
 abs:cI G "abs" (.builtin "abs")
 max:cI G "max" (.builtin "max")
 min:cI G "min" (.builtin "min")
 list:cI G "list" (.type "list")
 range:cI G "range" (.type "range")
 rev:cI G "reversed" (.type "reversed")
 enum:cI G "enumerate" (.type "enumerate")
 sum:cI G "sum" (.builtin "sum")
 any:cI G "any" (.builtin "any")
 sorted:cI G "sorted" (.builtin "sorted")
 isin:cI G "isinstance" (.builtin "isinstance")
 dict:cI G "dict" (.type "dict")
 str:cI G "str" (.type "str")
inductive OP(Q:(k:K)->List k.D->Sg->Prop)(ts:List T)(S:St):Prop
 |mk (k:K) (xs:List k.D) (σ:Sg) (e:ts=xs.map k.toT) (s:aN σ S) (q:Q k xs σ)
inductive TP(Q:Bool->Sg->Prop)(b:Bool)(S:St):Prop
 |mk (σ:Sg) (s:aN σ S) (q:Q b σ)
inductive SP(S:St)(Q:V->Prop)(t:T)(S':St):Prop
 |mk (v:V) (e:t=v.t) (s:S=S') (q:Q v)
structure bQ(G:aK)(n:Nat)(r:aO):Prop where
 s: ∀{d:Nat} {Γ:Fm} {S:St} {nm:NM} {σ:Sg} {e:Expr} {Q:V->Prop},n<=d->Γ.env.scope.names=nm->aN σ S->r.s nm σ e Q->Ev G d Γ S e (SP S Q)
 e: ∀{d:Nat} {Γ:Fm} {S:St} {nm:NM} {σ:Sg} {e:Expr} {Q:V->Sg->Prop},n<=d->Γ.env.scope.names=nm->aN σ S->r.e nm σ e Q->Ev G d Γ S e (WP Q)
 o: ∀{d:Nat} {Γ:Fm} {S:St} {nm:NM} {σ:Sg} {e:Expr} {Q:(k:K)->List k.D->Sg->Prop},n<=d->Γ.env.scope.names=nm->aN σ S->r.o nm σ e Q->b5 G d Γ S e λz_=>OP Q
 t: ∀{d:Nat} {Γ:Fm} {S:St} {nm:NM} {σ:Sg} {e:Expr} {Q:Bool->Sg->Prop},n<=d->Γ.env.scope.names=nm->aN σ S->r.t nm σ e Q->Tr G d Γ S e (TP Q)
theorem bQ.cE{n:Nat}{r:aO}(hr:bQ G n r){nm:NM}{σ:Sg}{e:Expr}{Q:V->Sg->Prop}{Q':T->St->Prop}(hd:n<=d)(hn:Γ.env.scope.names=nm)(hs:aN σ S)(h:r.e nm σ e Q)(k: ∀v ah S1,aN ah S1->Q v ah->Q' v.t S1):Ev G d Γ S e Q':=
 (hr.e hd hn hs h).mono λt S1 w=>by obtain⟨v,ah,e,s1,q⟩:=w;rw[e];exact k v ah S1 s1 q
theorem bQ.cS{n:Nat}{r:aO}(hr:bQ G n r){nm:NM}{σ:Sg}{e:Expr}{Q:V->Prop}{Q':T->St->Prop}(hd:n<=d)(hn:Γ.env.scope.names=nm)(hs:aN σ S)(h:r.s nm σ e Q)(k: ∀v,Q v->Q' v.t S):Ev G d Γ S e Q':=
 (hr.s hd hn hs h).mono λt S1 w=>by obtain⟨v,e,es,q⟩:=w;simp only[e, ← es];exact k v q
theorem b5.mono{e:Expr}{Q Q':aw->List T->St->Prop}(h:b5 G d Γ S e Q)(hq: ∀a ts S',Q a ts S'->Q' a ts S'):b5 G d Γ S e Q':=
 λH led hs=>(h H led hs).mono λv H' l le x=>by obtain⟨a,vs,o,ts,S',l,e,r,lo,z,el,s,q⟩:=x;exact⟨a,vs,o,ts,S',l,e,r,lo,z,el,s,hq _ _ _ q⟩
theorem bQ.cT{n:Nat}{r:aO}(hr:bQ G n r){nm:NM}{σ:Sg}{e:Expr}{Q:Bool->Sg->Prop}{Q':Bool->St->Prop}(hd:n<=d)(hn:Γ.env.scope.names=nm)(hs:aN σ S)(h:r.t nm σ e Q)(k: ∀b ah S1,aN ah S1->Q b ah->Q' b S1):Tr G d Γ S e Q':=
 (hr.t hd hn hs h).mono λb S1 w=>by obtain⟨ah,s1,q⟩:=w;exact k b ah S1 s1 q
noncomputable def b2(b:Bool):Int:=bif b then 1 else 0
def br(a:V)(k:Int->Prop):Prop:=match a with
 | .i x=>k x
 |_=>False
theorem fy{a:V}{k:Int->Prop}(h:br a k): ∃x,a= .i x/\k x:=by
 induction a with
 |i x=>exact⟨x,rfl,h⟩
 |_=>exact h.elim
def kB(a:V)(k:Bool->Prop):Prop:=match a with
 | .b x=>k x
 |_=>False
theorem Dh{a:V}{k:Bool->Prop}(h:kB a k): ∃x,a= .b x/\k x:=by
 induction a with
 |b x=>exact⟨x,rfl,h⟩
 |_=>exact h.elim
theorem gE{a:V}{k:Int->Prop}{R:Prop}(h:br a k)(f: ∀x,a.t= .int x->k x->R):R:=by
 induction a with
 |i x=>exact f x rfl h
 |_=>exact h.elim
theorem Oo{a:V}{k:Bool->Prop}{R:Prop}(h:kB a k)(f: ∀x,a.t= .bool x->k x->R):R:=by
 induction a with
 |b x=>exact f x rfl h
 |_=>exact h.elim
def lz(a:V)(k:(k:K)->List k.D->Prop):Prop:=match a with
 | .l c xs=>k c xs
 |_=>False
theorem xe{a:V}{k:(k:K)->List k.D->Prop}(h:lz a k): ∃c xs,a= .l c xs/\k c xs:=by
 induction a with
 |l c xs=>exact⟨c,xs,rfl,h⟩
 |_=>exact h.elim
theorem ut{a:V}{k:(k:K)->List k.D->Prop}{R:Prop}(h:lz a k)(f: ∀c xs,a.t= .list (xs.map c.toT)->k c xs->R):R:=by
 induction a with
 |l c xs=>exact f c xs rfl h
 |_=>exact h.elim
noncomputable def Gr:V->Bool
 | .b _=>true
 |_=>false
def xl(op:eJ)(a b:V)(Q:V->Prop):Prop:=match op with
 | .Add=>br a λx=>br b λy=>Q (.i (x+y))
 | .Sub=>bif Gr a then kB a λx=>kB b λy=>Q (.i (b2 x-b2 y))else br a λx=>br b λy=>Q (.i (x-y))
 | .Mult=>br a λx=>br b λy=>aq x y=true/\Q (.i (x*y))
 | .FloorDiv=>br a λx=>br b λy=>(y≠0/\bk y 8000=true)/\Q (.i (x.fdiv y))
 | .Mod=>br a λx=>br b λy=>y≠0/\Q (.i (x.fmod y))
 | .Pow=>br a λx=>br b λy=>(0<=y/\ce x y.toNat=true)/\Q (.i (x^y.toNat))
 |_=>False
inductive SH(G:aK)(op:eJ)(a b:V)(Q:V->Prop):Prop
 |mk (c:V) (h:dC G op a.t b.t c.t) (q:Q c)
theorem dC.subB{a b:Bool}:dC G .Sub (.bool a) (.bool b) (.int (b2 a-b2 b)):=λd H v w f hw=>by
 obtain rfl:=f.bool;obtain rfl:=hw.bool
 refine cA.read λA s ok hp tk c c=>sub_bool ⟨⟨_,rfl⟩,?_⟩
 have e: ∀b:Bool,b2i b=b2 b:=λb=>by cases b<;>rfl
 simp only[e,e];exact VR.ofInt
theorem Hv{op:eJ}{a b:V}{Q:V->Prop}(h:xl op a b Q):SH G op a b Q:=by
 induction op with
 |Add=>obtain⟨x,rfl,h⟩:=fy h;obtain⟨y,rfl,h⟩:=fy h;exact⟨.i _,dC.add,h⟩
 |Sub=>
  unfold xl at h
  cases hb:Gr a<;>simp only[hb]at h
  ·obtain⟨x,rfl,h⟩:=fy h;obtain⟨y,rfl,h⟩:=fy h;exact⟨.i _,dC.sub,h⟩
  ·obtain⟨x,rfl,h⟩:=Dh h;obtain⟨y,rfl,h⟩:=Dh h;exact⟨.i _,dC.subB,h⟩
 |Mult=>obtain⟨x,rfl,h⟩:=fy h;obtain⟨y,rfl,h,q⟩:=fy h;exact⟨.i _,dC.mul (by unfold xI;rw[h];rfl),q⟩
 |FloorDiv=>obtain⟨x,rfl,h⟩:=fy h;obtain⟨y,rfl,h,q⟩:=fy h;exact⟨.i _,dC.div (if_pos h),q⟩
 |Mod=>obtain⟨x,rfl,h⟩:=fy h;obtain⟨y,rfl,h,q⟩:=fy h;exact⟨.i _,dC.mod (if_pos h),q⟩
 |Pow=>obtain⟨x,rfl,h⟩:=fy h;obtain⟨y,rfl,h,q⟩:=fy h;exact⟨.i _,dC.pow (if_pos h),q⟩
 |_=>exact h.elim
def OD(op:gu)(x y:Int)(Q:Bool->Prop):Prop:=match op with
 | .Eq=>Q (x==y)
 | .NotEq=>Q (x !=y)
 | .Lt=>Q (decide (x<y))
 | .LtE=>Q (decide (x<=y))
 | .Gt=>Q (decide (x>y))
 | .GtE=>Q (decide (x≥y))
 |_=>False
def a9{α:Type}(o:Option α)(Q:α->Prop):Prop:=Fj (motive:=λz_=>Prop) False Q o
theorem dS{α:Type}{o:Option α}{Q:α->Prop}(h:a9 o Q): ∃x,o=some x/\Q x:=by
 induction o with
 |none=>exact h.elim
 |some x=>exact⟨x,rfl,h⟩
theorem sw{α:Type}{o:Option α}{Q:α->Prop}{x:α}(e:o=some x)(h:Q x):a9 o Q:=by subst e;exact h
noncomputable def r7:V->Bool
 | .no=>true
 |_=>false
def F6(op:gu)(a b:V)(Q:Bool->Prop):Prop:=match a with
 | .i x=>br b λy=>OD op x y Q
 | .l .I xs=>(match b with
  | .l .I ys=>(match op with
   | .Eq=>Q (xs==ys)
   | .NotEq=>Q (xs !=ys)
   |_=>False)
  |_=>False)
 | .t2 x y=>(match op with
  | .NotEq=>a9 (V.asR (.t2 x y)) λp=>a9 b.asR λq=>Q (!(p.1==q.1&&p.2==q.2))
  |_=>False)
 |_=>False
def rS(op:gu)(a b:V)(Q:Bool->Prop):Prop:=match op with
 | .IsNot=>r7 b=true/\Q (!r7 a)
 |op=>F6 op a b Q
inductive II(G:aK)(op:gu)(a b:V)(Q:Bool->Prop):Prop
 |mk (c:Bool) (h:cK G op a.t b.t c) (q:Q c)
theorem uA: ∀(xs:List Int),nt (xs.map (K.toT .I))=some xs
 | []=>rfl
 |x::xs=>by
  show(nt (xs.map (K.toT .I))).map (x:: ·)=_
  rw[uA xs];rfl
theorem US{op:gu}{a b:V}{Q:Bool->Prop}(h:F6 op a b Q):II G op a b Q:=by
 induction a with
 |i x=>
  obtain⟨y,rfl,h⟩:=fy h
  induction op with
  |Eq=>exact⟨_,cK.eq,h⟩
  |NotEq=>exact⟨_,cK.ne,h⟩
  |Lt=>exact⟨_,cK.lt,h⟩
  |LtE=>exact⟨_,cK.le,h⟩
  |Gt=>exact⟨_,cK.gt,h⟩
  |GtE=>exact⟨_,cK.ge,h⟩
  |_=>exact h.elim
 |l k xs=>
  induction k with
  |I=>
   induction b with
   |l k ys=>
    induction k with
    |I=>
     induction op with
     |Eq=>exact⟨_,cK.eqL (uA xs) (uA ys),h⟩
     |NotEq=>exact⟨_,cK.neL (uA xs) (uA ys),h⟩
     |_=>exact h.elim
    |_=>exact h.elim
   |_=>exact h.elim
  |_=>exact h.elim
 |t2 x y=>
  induction op with
  |NotEq=>
   refine aj λc=>?_
   obtain⟨p,e1,h⟩:=dS h
   obtain⟨q,e2,h⟩:=dS h
   refine c ?_
   simp only[V.asR_eq e1,V.asR_eq e2]
   exact⟨_,cK.neR,h⟩
  |_=>exact h.elim
 |_=>exact h.elim
theorem QN{a:V}:F0 a.t= !r7 a:=by cases a<;>rfl
theorem Ba{op:gu}{a b:V}{Q:Bool->Prop}(h:rS op a b Q):II G op a b Q:=by
 induction op with
 |IsNot=>
  obtain⟨h1,h⟩:=h
  induction b with
  |no=>rw[← QN]at h;exact⟨_,cK.isNot,h⟩
  |_=>cases h1
 |_=>exact US h
noncomputable def cg{α:Type}(xs:List α)(k:Int):Option α:=if 0<=k then xs[k.toNat]? else if -(xs.length:Int)<=k then xs[(k+xs.length).toNat]? else none
def By(i:V)(a b c:Prop):Prop:=match i with
 | .i (.ofNat n)=>(match n with
  |0=>a
  |1=>b
  |2=>c
  |_=>False)
 |_=>False
theorem Hk{i:V}{a b c:Prop}(h:By i a b c):(i= .i 0/\a)\/(i= .i 1/\b)\/(i= .i 2/\c):=by
 induction i with
 |i x=>
  induction x with
  |ofNat n=>
   match n,h with
   |0,h=>exact .inl ⟨rfl,h⟩
   |1,h=>exact .inr (.inl ⟨rfl,h⟩)
   |2,h=>exact .inr (.inr ⟨rfl,h⟩)
   |_+3,h=>exact h.elim
  |negSucc n=>exact h.elim
 |_=>exact h.elim
def lh(b i:V)(Q:V->Prop):Prop:=match b with
 | .l c xs=>br i λk=>a9 (cg xs k) λx=>Q (c.toV x)
 | .t2 x y=>By i (Q x) (Q y) False
 | .t3 x y z=>By i (Q x) (Q y) (Q z)
 |_=>False
theorem U3{k:K}{xs:List k.D}{j:Int}{x:k.D}(h:cg xs j=some x):io (xs.map k.toT) j=some (k.toT x):=by
 unfold cg at h
 unfold io
 rw[bi,jd,jd]
 split at h
 ·rw[if_pos (by assumption),h];rfl
 ·split at h
  ·rw[if_neg (by assumption),if_pos (by assumption),h];rfl
  ·cases h
inductive QF(b i:V)(Q:V->Prop):Prop
 |mk (k:Int) (c:V) (e:i.t= .int k) (h:(∃ts,b.t= .list ts/\io ts k=some c.t)\/(∃ts,b.t= .tup ts/\(-1000<=k/\k<=1000)/\io ts k=some c.t)) (q:Q c)
theorem xi{b i:V}{Q:V->Prop}(h:lh b i Q):QF b i Q:=by
 cases b with
 |l c xs=>
  obtain⟨k,rfl,h⟩:=fy h
  obtain⟨x,hx,q⟩:=dS h
  exact⟨k,c.toV x,rfl,.inl ⟨_,rfl,by simp only[K.vt];exact U3 hx⟩,q⟩
 |t2 x y=>
  rcases Hk h with⟨rfl,q⟩|⟨rfl,q⟩|⟨rfl,q⟩
  ·exact⟨0,x,rfl,.inr ⟨_,rfl,by decide,rfl⟩,q⟩
  ·exact⟨1,y,rfl,.inr ⟨_,rfl,by decide,rfl⟩,q⟩
  ·exact q.elim
 |t3 x y z=>
  rcases Hk h with⟨rfl,q⟩|⟨rfl,q⟩|⟨rfl,q⟩
  ·exact⟨0,x,rfl,.inr ⟨_,rfl,by decide,rfl⟩,q⟩
  ·exact⟨1,y,rfl,.inr ⟨_,rfl,by decide,rfl⟩,q⟩
  ·exact⟨2,z,rfl,.inr ⟨_,rfl,by decide,rfl⟩,q⟩
 |_=>exact h.elim
noncomputable def V.kind(v:V):K:=match v with
 | .b _=>.B
 | .l _ _=>.P
 | .t2 x y=>(match x with
  | .t2 _ _=>(match y with
   | .t2 _ _=>.W
   |_=>.M)
  |_=>(match y with
   | .b _=>.D'
   |_=>.R))
 |_=>.I
noncomputable def yj(k:K):List V->Option (List k.D)
 | []=>some []
 |v::vs=>(k.of v).bind λx=>(yj k vs).bind λxs=>some (x::xs)
theorem Ds{k:K}: ∀{vs:List V} {xs:List k.D},yj k vs=some xs->vs.map V.t=xs.map k.toT
 | [],xs,h=>by cases h;rfl
 |v::vs,xs,h=>by
  obtain⟨x,h1,h⟩:=iL.mp h
  obtain⟨ys,h2,h⟩:=iL.mp h
  cases h
  simp only[gr,gr,Ds h2,K.of_t h1]
def lstW(vs:List V)(Q:(k:K)->List k.D->Prop):Prop:=match vs with
 | []=>Q .I []
 |v::_=>a9 (yj v.kind vs) λxs=>Q v.kind xs
theorem Tk{vs:List V}{Q:(k:K)->List k.D->Prop}(h:lstW vs Q): ∃k xs,vs.map V.t=xs.map (K.toT k)/\xs.length=vs.length/\Q k xs:=by
 induction vs with
 |nil=>exact⟨.I,[],rfl,rfl,h⟩
 |cons v vs=>
  obtain⟨xs,e,q⟩:=dS h
  have :=Ds e
  exact⟨_,xs,this,by have :=congrArg aR this;simpa using this.symm,q⟩
noncomputable def WQ:Nat->K
 |0=>.I
 |1=>.B
 |2=>.R
 |3=>.P
 |4=>.W
 |5=>.M
 |_=>.D'
theorem IM(k:K):WQ k.ctorIdx=k:=by cases k<;>rfl
theorem K.inj{k k':K}(h:k'.ctorIdx=k.ctorIdx):k'=k:=by rw[← IM k',h,IM]
noncomputable def u6(k k':K)(ys:List k'.D):Option (List k.D):=if h:k'.ctorIdx=k.ctorIdx then some (K.inj h▸ys)else none
theorem SI{k k':K}{ys:List k'.D}{zs:List k.D}(h:u6 k k' ys=some zs):ys.map k'.toT=zs.map k.toT:=by
 unfold u6 at h
 by_cases e:k'.ctorIdx=k.ctorIdx
 ·rw[dif_pos e]at h
  have e2:=K.inj e
  subst e2
  cases h;rfl
 ·rw[dif_neg e]at h;cases h
def Hu(op:eJ)(a b:V)(Q:(k:K)->List k.D->Prop):Prop:=match op with
 | .Mult=>lz a λk xs=>br b λx=>(-(2^63:Int)<=x/\x<2^63/\xs.length*x.toNat<=2^24)/\Q k (gP x.toNat xs).flatten
 | .Add=>lz a λk xs=>lz b λk' ys=>a9 (u6 k k' ys) λzs=>xs.length+zs.length<=2^24/\Q k (xs++zs)
 |_=>False
inductive Un(G:aK)(op:eJ)(a b:V)(Q:(k:K)->List k.D->Prop):Prop
 |mk (k:K) (xs:List k.D) (h:pi G op a.t b.t (xs.map k.toT)) (q:Q k xs)
theorem PE{op:eJ}{a b:V}{Q:(k:K)->List k.D->Prop}(h:Hu op a b Q):Un G op a b Q:=by
 induction op with
 |Mult=>
  obtain⟨k,xs,rfl,h⟩:=xe h
  obtain⟨x,rfl,⟨h1,h2,h3⟩,q⟩:=fy h
  refine⟨k,_,?_,q⟩
  have :=pi.mul (G:=G) (ts:=xs.map k.toT) h1 h2 (by rw[bi];exact h3)
  simp only[List.map_flatten,List.map_replicate];exact this
 |Add=>
  obtain⟨k,xs,rfl,h⟩:=xe h
  obtain⟨k',ys,rfl,h⟩:=xe h
  obtain⟨zs,e,h1,q⟩:=dS h
  refine⟨k,_,?_,q⟩
  have ez:=SI e
  have :=pi.add (G:=G) (ts:=xs.map k.toT) (us:=ys.map k'.toT) (by simp only[ez,bi,bi];exact h1)
  simp only[jX, ← ez];exact this
 |_=>exact h.elim
end
section
variable {G:aK} {d:Nat} {Γ:Fm} {S:St}
noncomputable def OK{C:Expr->Type}(e:Expr)(f: ∀a b c p,C (.Slice a b c p))(d:C e):C e:=if h:e.ctorIdx=26 then Expr.Slice.elim e h f else d
noncomputable def Gf{C:Expr->Type}(e:Expr)(f: ∀b m p,C (.Attribute b m p))(d:C e):C e:=if h:e.ctorIdx=20 then Expr.Attribute.elim e h f else d
noncomputable def xG{C:Expr->Type}(e:Expr)(f: ∀v i p,C (.Subscript v i p))(d:C e):C e:=if h:e.ctorIdx=21 then Expr.Subscript.elim e h f else d
noncomputable def OS{C:Expr->Type}(e:Expr)(f: ∀elt gens sc p,C (.ListComp elt gens sc p))(d:C e):C e:=if h:e.ctorIdx=8 then Expr.ListComp.elim e h f else d
noncomputable def Tw{C:Expr->Type}(e:Expr)(f: ∀g args a p,C (.Call g args a p))(d:C e):C e:=if h:e.ctorIdx=16 then Expr.Call.elim e h f else d
noncomputable def iV{α:Type}(b:Bool)(f:b=true->α)(d:α):α:=Bool.rec (motive:=λc=>(c=true->α)->α) (λz_=>d) (λf=>f rfl) b f
theorem and2{a b:Bool}(h:(a&&b)=true):a=true/\b=true:=q9.mp h
theorem GJ{a:Bool}(h:(!a)=true):a=false:=by cases a<;>first |rfl|cases h
set_option genCtorIdx false in
inductive EV where
 |lit (t:V)
 |name (x:ag)
 |bin (l:Expr) (op:eJ) (r:Expr)
 |neg (x:Expr)
 |cmp1 (l:Expr) (op:gu) (r:Expr)
 |cmp2 (l:Expr) (op:gu) (m:Expr) (hY:gu) (r:Expr)
 |ifx (c x y:Expr)
 |subN (x:ag) (v i:Expr)
 |sub (v i:Expr)
 |sliceF (v e:Expr)
 |sliceU (v e:Expr)
 |tup (es:List Expr)
 |callN (f x:ag) (args:List Expr)
 |call (f:ag) (args:List Expr)
 |lst (es:List Expr)
 |comp (elt tgt iter:Expr) (ifs:List Expr) (scope:b9)
 |and2 (x y:Expr)
 |or2 (x y:Expr)
 |not (x:Expr)
 |pop (x:ag)
 |dict0
 |no
inductive dU:Expr->EV->Prop
 |int {i k p}:dU (.Constant (.int i) k p) (.lit (.i i))
 |str {x k p}:dU (.Constant (.str x) k p) (.lit (.s x))
 |none {k p}:dU (.Constant .none k p) (.lit .no)
 |bool {b k p}:dU (.Constant (.bool b) k p) (.lit (.b b))
 |name {x p}:dU (.Name x p) (.name x)
 |bin {l op r pos}:dU (.BinOp l op r pos) (.bin l op r)
 |neg {x pos}:dU (.UnaryOp .USub x pos) (.neg x)
 |cmp1 {l op r pos}:on op r=false->dU (.Compare l [op] [r] pos) (.cmp1 l op r)
 |cmp2 {l op m hY r pos}:on hY r=false->dU (.Compare l [op,hY] [m,r] pos) (.cmp2 l op m hY r)
 |ifx {c x y pos}:dU (.IfExp c x y pos) (.ifx c x y)
 |subN {x p i pos}:dM i=true->dU (.Subscript (.Name x p) i pos) (.subN x (.Name x p) i)
 |sub {v i pos}:dM i=true->dU (.Subscript v i pos) (.sub v i)
 |sliceF {v e p pos}:dU (.Subscript v (.Slice (some e) none none p) pos) (.sliceF v e)
 |sliceU {v e p pos}:dU (.Subscript v (.Slice none (some e) none p) pos) (.sliceU v e)
 |tup {es k pos}:dU (.Tuple es k pos) (.tup es)
 |callN {f p x p2 pos}:dU (.Call (.Name f p) [.Name x p2] [] pos) (.callN f x [.Name x p2])
 |call {f p args pos}:dU (.Call (.Name f p) args [] pos) (.call f args)
 |lst {es pos}:dU (.List es pos) (.lst es)
 |comp {elt tgt iter ifs scope pos}:dU (.ListComp elt [⟨tgt,iter,ifs,0⟩] scope pos) (.comp elt tgt iter ifs scope)
 |and2 {x y pos}:dU (.BoolOp .And [x,y] pos) (.and2 x y)
 |or2 {x y pos}:dU (.BoolOp .Or [x,y] pos) (.or2 x y)
 |not {x pos}:dU (.UnaryOp .Not x pos) (.not x)
 |pop {x p apos cN}:(apos.endLine==cN.line)=true->dU (.Call (.Attribute (.Name x p) "pop" apos) [] [] cN) (.pop x)
 |dict0 {pos}:dU (.Dict [] [] pos) .dict0
 |no {e}:dU e .no
noncomputable abbrev fK(e:Expr):={v:EV//dU e v}
noncomputable def hK{e:Expr}:fK e:=⟨.no,.no⟩
noncomputable def Q4(op:UnaryOp)(x:Expr)(pos:ax):fK (.UnaryOp op x pos):=match op with
 | .USub=>⟨.neg x,.neg⟩
 | .Not=>⟨.not x,.not⟩
 | .UAdd=>hK
 | .Invert=>hK
noncomputable def UC(l:Expr)(ops:List gu)(rs:List Expr)(pos:ax):fK (.Compare l ops rs pos):=match ops,rs with
 | [op],[r]=>iV (!on op r) (λh=>⟨.cmp1 l op r,.cmp1 (GJ h)⟩) hK
 | [op,hY],[m,r]=>iV (!on hY r) (λh=>⟨.cmp2 l op m hY r,.cmp2 (GJ h)⟩) hK
 |_,_=>hK
noncomputable def TG(v:Expr)(lo hi st:Option Expr)(p pos:ax):fK (.Subscript v (.Slice lo hi st p) pos):=match lo,hi,st with
 |some e,none,none=>⟨.sliceF v e,.sliceF⟩
 |none,some e,none=>⟨.sliceU v e,.sliceU⟩
 |_,_,_=>hK
noncomputable def OZ(v i:Expr)(pos:ax):fK (.Subscript v i pos):=OK (C:=λi=>fK (.Subscript v i pos)) i (λlo hi st p=>TG v lo hi st p pos)
 (iV (dM i) (λh=>jL (C:=λv=>fK (.Subscript v i pos)) v (λx p=>⟨.subN x (.Name x p) i,.subN h⟩) ⟨.sub v i,.sub h⟩) hK)
noncomputable def Pz(g:ag)(p:ax)(args:List Expr)(pos:ax):fK (.Call (.Name g p) args [] pos):=match args with
 | [e]=>jL (C:=λe=>fK (.Call (.Name g p) [e] [] pos)) e (λx p2=>⟨.callN g x [.Name x p2],.callN⟩) ⟨.call g [e],.call⟩
 |args=>⟨.call g args,.call⟩
noncomputable def Ss(x m:ag)(p apos cN:ax):fK (.Call (.Attribute (.Name x p) m apos) [] [] cN):=iV (m==("pop":ag)&&apos.endLine==cN.line) (λh=>⟨.pop x,by
 obtain rfl:=beq_iff_eq.mp (and2 h).1
 exact .pop (and2 h).2⟩) hK
noncomputable def On(f:Expr)(args:List Expr)(pos:ax):fK (.Call f args [] pos):=jL (C:=λf=>fK (.Call f args [] pos)) f (λg p=>Pz g p args pos)
 (Gf (C:=λf=>fK (.Call f args [] pos)) f (λb m apos=>match args with
  | []=>jL (C:=λb=>fK (.Call (.Attribute b m apos) [] [] pos)) b (λx p=>Ss x m p apos pos) hK
  |_::_=>hK) hK)
noncomputable def Vp(f:Expr)(args:List Expr)(a:List Keyword)(pos:ax):fK (.Call f args a pos):=match a with
 | []=>On f args pos
 |_::_=>hK
noncomputable def N6(ks:List (Option Expr))(vs:List Expr)(pos:ax):fK (.Dict ks vs pos):=match ks,vs with
 | [],[]=>⟨.dict0,.dict0⟩
 |_,_=>hK
noncomputable def W5(elt:Expr)(gens:List pU)(scope:b9)(pos:ax):fK (.ListComp elt gens scope pos):=match gens with
 | [⟨tgt,iter,ifs,0⟩]=>⟨.comp elt tgt iter ifs scope,.comp⟩
 |_=>hK
noncomputable def V2(op:BoolOp)(xs:List Expr)(pos:ax):fK (.BoolOp op xs pos):=match op,xs with
 | .And,[x,y]=>⟨.and2 x y,.and2⟩
 | .Or,[x,y]=>⟨.or2 x y,.or2⟩
 |_,_=>hK
noncomputable def Uv(c:Const)(k:Nat)(pos:ax):fK (.Constant c k pos):=match c with
 | .int i=>⟨.lit (.i i),.int⟩
 | .str x=>⟨.lit (.s x),.str⟩
 | .none=>⟨.lit .no,.none⟩
 | .bool b=>⟨.lit (.b b),.bool⟩
 |_=>hK
noncomputable def HJ(e:Expr):fK e:=match e with
 | .Name x _=>⟨.name x,.name⟩
 | .BinOp l op r _=>⟨.bin l op r,.bin⟩
 | .UnaryOp op x pos=>Q4 op x pos
 | .Compare l ops rs pos=>UC l ops rs pos
 | .IfExp c x y _=>⟨.ifx c x y,.ifx⟩
 | .Subscript v i pos=>OZ v i pos
 | .Tuple es _ _=>⟨.tup es,.tup⟩
 | .Call f args a pos=>Vp f args a pos
 | .Dict ks vs pos=>N6 ks vs pos
 | .List es _=>⟨.lst es,.lst⟩
 | .ListComp elt gens scope pos=>W5 elt gens scope pos
 | .BoolOp op xs pos=>V2 op xs pos
 | .Constant c k pos=>Uv c k pos
 |_=>hK
noncomputable def eM(e:Expr):EV:=(HJ e).1
theorem md(e:Expr):dU e (eM e):=(HJ e).2
noncomputable def Hw(v:EV):Bool:=match v with
 | .lst _=>true
 | .comp .. =>true
 | .call f _=>f==("list":ag)||f==("sorted":ag)
 | .callN f _ _=>f==("list":ag)||f==("sorted":ag)
 | .sliceF .. =>true
 | .sliceU .. =>true
 |_=>false
noncomputable def wW(n:Nat)(e:Expr):Bool:=match n with
 |0=>Hw (eM e)
 |n+1=>match eM e with
  | .bin l _ _=>wW n l
  | .ifx _ x y=>wW n x&&wW n y
  |v=>Hw v
noncomputable def xT(e:Expr):Bool:=wW 3 e
set_option genCtorIdx false in
inductive TV where
 |name (x:ag)
 |tup (xs:List ag)
 |no
inductive qA:Expr->TV->Prop
 |name {x p}:qA (.Name x p) (.name x)
 |tup {es k p}:jk es=true->qA (.Tuple es k p) (.tup (iQ es))
 |no {e}:qA e .no
noncomputable def IS(e:Expr):{w:TV//qA e w}:=jL (C:=λe=>{w:TV//qA e w}) e (λx p=>⟨.name x,.name⟩) (xv (C:=λe=>{w:TV//qA e w}) e (λes k p=>iV (jk es) (λh=>⟨.tup (iQ es),.tup h⟩) ⟨.no,.no⟩) ⟨.no,.no⟩)
noncomputable def uX(e:Expr):TV:=(IS e).1
theorem Im(e:Expr):qA e (uX e):=(IS e).2
set_option genCtorIdx false in
inductive SV where
 |asComp (x:ag) (elt tgt iter:Expr) (ifs:List Expr) (scope:b9)
 |asE (x:ag) (e:Expr)
 |asTups (xs es:List Expr)
 |asTup (xs:List ag) (e:Expr)
 |setSub (x:ag) (i e:Expr)
 |aug (x:ag) (op:eJ) (e:Expr)
 |augSub (x:ag) (i:Expr) (op:eJ) (e:Expr)
 |app (x:ag) (e:Expr)
 |insert (x:ag) (i e:Expr)
 |setSub2 (x:ag) (i i2 e e2:Expr)
 |asComp2 (x:ag) (elt t1 i1 t2 i2:Expr) (scope:b9)
 |expr (e:Expr)
 |ret (e:Expr)
 |ifs (c:Expr) (x y:List aW)
 |whl (c:Expr) (body:List aW)
 |forr (tgt e:Expr) (body:List aW)
 |no
inductive f9:aW->SV->Prop
 |asComp {x p elt tgt iter ifs scope gl pos}:f9 (.Assign [.Name x p] (.ListComp elt [⟨tgt,iter,ifs,0⟩] scope gl) pos) (.asComp x elt tgt iter ifs scope)
 |asE {x p e pos}:gB e=true->f9 (.Assign [.Name x p] e pos) (.asE x e)
 |asTups {xs k p es k' p' pos}:jk xs=true->es.length<=1000->xs.length=es.length->f9 (.Assign [.Tuple xs k p] (.Tuple es k' p') pos) (.asTups xs es)
 |asTup {xs k p e pos}:jk xs=true->gB e=true->uD e=true->f9 (.Assign [.Tuple xs k p] e pos) (.asTup (iQ xs) e)
 |setSub {x p i ps e pos}:gB e=true->dM i=true->f9 (.Assign [.Subscript (.Name x p) i ps] e pos) (.setSub x i e)
 |aug {x p op e pos}:f9 (.AugAssign (.Name x p) op e pos) (.aug x op e)
 |augSub {x p i ps op e pos}:dM i=true->f9 (.AugAssign (.Subscript (.Name x p) i ps) op e pos) (.augSub x i op e)
 |app {x p apos e cN pos}:(apos.endLine==cN.line)=true->bh e=true->f9 (.Expr (.Call (.Attribute (.Name x p) "append" apos) [e] [] cN) pos) (.app x e)
 |insert {x p apos i e cN pos}:(apos.endLine==cN.line)=true->bh i=true->bh e=true->f9 (.Expr (.Call (.Attribute (.Name x p) "insert" apos) [i,e] [] cN) pos) (.insert x i e)
 |setSub2 {x p p2 i i2 ps iD e e2 kt kv pt pv pos}:dM i=true->dM i2=true->bh e=true->bh e2=true->f9 (.Assign [.Tuple [.Subscript (.Name x p) i ps,.Subscript (.Name x p2) i2 iD] kt pt] (.Tuple [e,e2] kv pv) pos) (.setSub2 x i i2 e e2)
 |asComp2 {x p elt t1 i1 t2 i2 scope gl pos}:f9 (.Assign [.Name x p] (.ListComp elt [⟨t1,i1,[],0⟩,⟨t2,i2,[],0⟩] scope gl) pos) (.asComp2 x elt t1 i1 t2 i2 scope)
 |expr {e pos}:gB e=true->f9 (.Expr e pos) (.expr e)
 |ret {e pos}:f9 (.Return (some e) pos) (.ret e)
 |ifs {c x y pos}:f9 (.If c x y pos) (.ifs c x y)
 |whl {c body pos}:f9 (.While c body [] pos) (.whl c body)
 |forr {tgt e body pos}:dX e=true->f9 (.For tgt e body [] pos) (.forr tgt e body)
 |no {st}:f9 st .no
noncomputable abbrev dL(s:aW):={v:SV//f9 s v}
noncomputable def eR{s:aW}:dL s:=⟨.no,.no⟩
noncomputable def Q1(x:ag)(p:ax)(elt:Expr)(gens:List pU)(scope:b9)(gl pos:ax):dL (.Assign [.Name x p] (.ListComp elt gens scope gl) pos):=match gens with
 | [⟨tgt,iter,ifs,0⟩]=>⟨.asComp x elt tgt iter ifs scope,.asComp⟩
 | [⟨t1,i1,[],0⟩,⟨t2,i2,[],0⟩]=>⟨.asComp2 x elt t1 i1 t2 i2 scope,.asComp2⟩
 |_=>eR
noncomputable def Of(x:ag)(p:ax)(e:Expr)(pos:ax):dL (.Assign [.Name x p] e pos):=OS (C:=λe=>dL (.Assign [.Name x p] e pos)) e (λelt gens scope gl=>Q1 x p elt gens scope gl pos) (iV (gB e) (λh=>⟨.asE x e,.asE h⟩) eR)
noncomputable def RV(x a:ag)(i i2 e e2:Expr)(p p2 ps iD pt pv pos:ax)(kt kv:Nat):dL (.Assign [.Tuple [.Subscript (.Name x p) i ps,.Subscript (.Name a p2) i2 iD] kt pt] (.Tuple [e,e2] kv pv) pos):=iV (x==a&&(dM i&&(dM i2&&(bh e&&bh e2)))) (λh=>⟨.setSub2 x i i2 e e2,by
 obtain rfl:=beq_iff_eq.mp (and2 h).1
 have h1:=and2 (and2 h).2
 have h2:=and2 h1.2
 have h3:=and2 h2.2
 exact .setSub2 h1.1 h2.1 h3.1 h3.2⟩) eR
noncomputable def VO(xs es:List Expr)(kt kv:Nat)(pt pv pos:ax):dL (.Assign [.Tuple xs kt pt] (.Tuple es kv pv) pos):=match xs,es with
 | [t,u],[e,e2]=>xG (C:=λt=>dL (.Assign [.Tuple [t,u] kt pt] (.Tuple [e,e2] kv pv) pos)) t (λa i ps=>xG (C:=λu=>dL (.Assign [.Tuple [.Subscript a i ps,u] kt pt] (.Tuple [e,e2] kv pv) pos)) u (λb i2 iD=>
  jL (C:=λa=>dL (.Assign [.Tuple [.Subscript a i ps,.Subscript b i2 iD] kt pt] (.Tuple [e,e2] kv pv) pos)) a (λx p=>jL (C:=λb=>dL (.Assign [.Tuple [.Subscript (.Name x p) i ps,.Subscript b i2 iD] kt pt] (.Tuple [e,e2] kv pv) pos)) b (λc p2=>RV x c i i2 e e2 p p2 ps iD pt pv pos kt kv) eR) eR) eR) eR
 |_,_=>eR
noncomputable def Oe(xs:List Expr)(k:Nat)(p:ax)(e:Expr)(pos:ax):dL (.Assign [.Tuple xs k p] e pos):=xv (C:=λe=>dL (.Assign [.Tuple xs k p] e pos)) e
 (λes k' p'=>iV (jk xs&&(decide (es.length<=1000)&&xs.length==es.length)) (λh=>⟨.asTups xs es,.asTups (and2 h).1 (of_decide_eq_true (and2 (and2 h).2).1) (beq_iff_eq.mp (and2 (and2 h).2).2)⟩) (VO xs es k k' p p' pos))
 (iV (jk xs&&(gB e&&uD e)) (λh=>⟨.asTup (iQ xs) e,.asTup (and2 h).1 (and2 (and2 h).2).1 (and2 (and2 h).2).2⟩) eR)
noncomputable def U0(b i e:Expr)(ps pos:ax):dL (.Assign [.Subscript b i ps] e pos):=jL (C:=λb=>dL (.Assign [.Subscript b i ps] e pos)) b (λx p=>iV (gB e&&dM i) (λh=>⟨.setSub x i e,.setSub (and2 h).1 (and2 h).2⟩) eR) eR
noncomputable def Ph(ts:List Expr)(e:Expr)(pos:ax):dL (.Assign ts e pos):=match ts with
 | [t]=>jL (C:=λt=>dL (.Assign [t] e pos)) t (λx p=>Of x p e pos) (xv (C:=λt=>dL (.Assign [t] e pos)) t (λxs k p=>Oe xs k p e pos) (xG (C:=λt=>dL (.Assign [t] e pos)) t (λb i ps=>U0 b i e ps pos) eR))
 |_=>eR
noncomputable def Xb(t:Expr)(op:eJ)(e:Expr)(pos:ax):dL (.AugAssign t op e pos):=jL (C:=λt=>dL (.AugAssign t op e pos)) t (λx p=>⟨.aug x op e,.aug⟩)
 (xG (C:=λt=>dL (.AugAssign t op e pos)) t (λb i ps=>jL (C:=λb=>dL (.AugAssign (.Subscript b i ps) op e pos)) b (λx p=>iV (dM i) (λh=>⟨.augSub x i op e,.augSub h⟩) eR) eR) eR)
noncomputable def Cb(e:Expr)(pos:ax):dL (.Expr e pos):=iV (gB e) (λh=>⟨.expr e,.expr h⟩) eR
noncomputable def QR(x m:ag)(p apos cN pos:ax)(args:List Expr):dL (.Expr (.Call (.Attribute (.Name x p) m apos) args [] cN) pos):=match args with
 | [a]=>iV (m==("append":ag)&&(apos.endLine==cN.line&&bh a)) (λh=>⟨.app x a,by
  obtain rfl:=beq_iff_eq.mp (and2 h).1
  exact .app (and2 (and2 h).2).1 (and2 (and2 h).2).2⟩) eR
 | [i,e]=>iV (m==("insert":ag)&&(apos.endLine==cN.line&&(bh i&&bh e))) (λh=>⟨.insert x i e,by
  obtain rfl:=beq_iff_eq.mp (and2 h).1
  have h1:=and2 (and2 h).2
  exact .insert h1.1 (and2 h1.2).1 (and2 h1.2).2⟩) eR
 |_=>eR
noncomputable def U2(e:Expr)(pos:ax):dL (.Expr e pos):=Tw (C:=λe=>dL (.Expr e pos)) e (λf args a cN=>Gf (C:=λf=>dL (.Expr (.Call f args a cN) pos)) f (λb m apos=>jL (C:=λb=>dL (.Expr (.Call (.Attribute b m apos) args a cN) pos)) b (λx p=>match a with
 | []=>QR x m p apos cN pos args
 |_::_=>eR) (Cb _ pos)) (Cb _ pos)) (Cb e pos)
noncomputable def Ib(st:aW):dL st:=match st with
 | .Assign ts e pos=>Ph ts e pos
 | .AugAssign t op e pos=>Xb t op e pos
 | .Expr e pos=>U2 e pos
 | .Return (some e) _=>⟨.ret e,.ret⟩
 | .If c x y _=>⟨.ifs c x y,.ifs⟩
 | .While c body [] _=>⟨.whl c body,.whl⟩
 | .For tgt e body [] _=>iV (dX e) (λh=>⟨.forr tgt e body,.forr h⟩) eR
 |_=>eR
noncomputable def gX(st:aW):SV:=(Ib st).1
theorem xK(st:aW):f9 st (gX st):=(Ib st).2
end
section
variable {G:aK} {d:Nat} {Γ:Fm} {S:St}
def O1(nm:NM)(x:ag)(Q:V->Prop)(a:Sl):Prop:=match a with
 | .val v=>bif nd x&&(dz (nm.lookup x) .cell ||xE nm x)then Q v else False
 |_=>False
def wP(nm:NM)(σ:Sg)(x:ag)(Q:V->Prop):Prop:=mA σ x (F4 Q) (O1 nm x Q) False
theorem GY{nm:NM}{σ:Sg}{x:ag}{pos:ax}{Q:V->Prop}(hn:Γ.env.scope.names=nm)(hs:aN σ S)(h:wP nm σ x Q):Ev G d Γ S (.Name x pos) (SP S Q):=by
 rcases p9 hs h with⟨a,s,_,m,k,h⟩|⟨a,s,_,_,m,k,h⟩|h
 ·induction a with
  |val v=>rw[m.isVal]at k;exact Ev.name (k .any).choose_spec.1.self ⟨v,rfl,rfl,h⟩
  |_=>exact h.elim
 ·induction a with
  |val v=>obtain⟨c,h⟩:=cQ h;rw[m.isVal]at k;exact JP hn c (k .any).choose_spec.1.self ⟨v,rfl,rfl,h⟩
  |_=>exact h.elim
 ·exact h.elim
def sG(r:aO)(nm:NM)(σ:Sg):List Expr->(List V->Prop)->Prop
 | [],Q=>Q []
 |x::rest,Q=>r.s nm σ x λv=>sG r nm σ rest λvs=>Q (v::vs)
inductive Sb(S:St)(Q:List V->Prop)(ts:List T)(S':St):Prop
 |mk (vs:List V) (e:ts=vs.map V.t) (s:S=S') (q:Q vs)
theorem b8.mono{pos:ax}{es:List Expr}{Q Q':List T->St->Prop}(h:b8 G d Γ S pos es Q)(hq: ∀ts S',Q ts S'->Q' ts S'):b8 G d Γ S pos es Q':=
 λH led hs=>(h H led hs).mono λv H' l le x=>by obtain⟨ts,S',r,s,q⟩:=x;exact⟨ts,S',r,s,hq _ _ q⟩
theorem ck.mono'{tgt e:Expr}{Q Q':List T->St->Prop}(h:ck G d Γ S tgt e Q)(hq: ∀t S,Q t S->Q' t S):ck G d Γ S tgt e Q':=
 λH led hs=>(h H led hs).mono λx H1 l1 le k=>k.mono λit H' l aV x=>by obtain⟨bl,S',st,li,ls,e,i,z,s,q⟩:=x;exact⟨bl,S',st,li,ls,e,i,z,s,hq _ _ q⟩
theorem all_cons{e:Expr}{es:List Expr}(h:(e::es).all bh=true):bh e=true/\es.all bh=true:=by simpa using h
theorem yh{n:Nat}{r:aO}(hr:bQ G n r){nm:NM}{σ:Sg}{pos:ax}(hd:n<=d)(hn:Γ.env.scope.names=nm)(hs:aN σ S): ∀{es:List Expr} {Q:List V->Prop},es.all bh=true->sG r nm σ es Q->b8 G d Γ S pos es (Sb S Q)
 | [],Q,_,h=>b8.nil ⟨[],rfl,rfl,h⟩
 |x::rest,Q,hp,h=>by
  refine b8.cons (all_cons hp).1 ((hr.s hd hn hs h).mono λt S1 w=>?_)
  obtain⟨v,e,es,q⟩:=w
  subst es
  refine(yh hr hd hn hs (all_cons hp).2 q).mono λts S2 w=>?_
  obtain⟨vs,e2,a,q2⟩:=w
  exact⟨v::vs,by simp only[e,e2];rfl,a,q2⟩
noncomputable def maxL:List Int->Int
 | []=>0
 | [x]=>x
 |x::y::r=>max x (maxL (y::r))
theorem wC: ∀{ns:List Int},ns≠ []->maxL ns∈ns/\∀a∈ns,a<=maxL ns
 | [],h=>absurd rfl h
 | [x],_=>by simp[maxL]
 |x::y::r,_=>by
  obtain⟨q1,q2⟩:=wC (ns:=y::r) (by simp)
  show max x (maxL (y::r))∈_/\_
  refine⟨?_,λa ha=>?_⟩
  ·rcases Mv x (maxL (y::r))with h|h
   ·rw[Int.max_eq_right h];exact .tail _ q1
   ·rw[Int.max_eq_left h];exact .head _
  ·rcases bz.mp ha with rfl|ha
   ·exact Int.le_max_left _ _
   ·exact bb (q2 a ha) (Int.le_max_right _ _)
def ua(vs:List V)(A:V->Prop):Prop:=match vs with
 | [v]=>A v
 |_=>False
theorem xh{vs:List V}{A:V->Prop}(h:ua vs A): ∃v,vs=[v]/\A v:=by
 match vs,h with
 | [v],h=>exact⟨v,rfl,h⟩
def BS(vs:List V)(A:V->Prop)(B:V->V->Prop):Prop:=match vs with
 | [v]=>A v
 | [v,w]=>B v w
 |_=>False
theorem J7{vs:List V}{A:V->Prop}{B:V->V->Prop}(h:BS vs A B):(∃v,vs=[v]/\A v)\/∃v w,vs=[v,w]/\B v w:=by
 match vs,h with
 | [v],h=>exact .inl ⟨v,rfl,h⟩
 | [v,w],h=>exact .inr ⟨v,w,rfl,h⟩
def GA(vs:List V)(Q:V->Prop):Prop:=ua vs λv=>lz v λk xs=>Q (.i xs.length)
def Ia(vs:List V)(Q:V->Prop):Prop:=ua vs λv=>br v λx=>Q (.i x.natAbs)
def Gm(vs:List V)(Q:V->Prop):Prop:=BS vs (λv=>a9 v.asL λxs=>xs≠ []/\Q (.i (maxL xs))) λv w=>br v λx=>br w λy=>Q (.i (max x y))
def Jg(vs:List V)(Q:V->Prop):Prop:=BS vs (λz_=>False) λv w=>br v λx=>br w λy=>Q (.i (min x y))
noncomputable def K.bools(k:K):List k.D->Option (List Bool):=match k with
 | .B=>some
 |_=>λz_=>none
noncomputable def V.asBs(v:V):Option (List Bool):=match v with
 | .l k xs=>k.bools xs
 |_=>none
theorem V.asBs_eq{v:V}{x:List Bool}(h:v.asBs=some x):v= .l .B x:=by
 induction v with
 |l k xs=>cases k<;>cases h;rfl
 |_=>cases h
def GR(vs:List V)(Q:V->Prop):Prop:=ua vs λv=>a9 v.asL λxs=>Q (.i (preSum (λi=>xs[i]?.getD 0) xs.length))
def Iy(vs:List V)(Q:V->Prop):Prop:=ua vs λv=>a9 v.asBs λbs=>Q (.b (bs.any id))
inductive BP(G:aK)(d:Nat)(w:an)(vs:List V)(Q:V->Prop):Prop
 |mk (v:V) (h:cY G d w (vs.map V.t) v.t) (q:Q v)
theorem VP{vs:List V}{Q:V->Prop}(h:GA vs Q):BP G d (.builtin "len") vs Q:=by
 obtain⟨v,e,h⟩:=xh h
 rw[e]
 exact ut h λk xs e q=>⟨.i xs.length,by show cY G d _ [v.t] _;rw[e];have :=cY.len (G:=G) (d:=d) (ts:=xs.map k.toT);simp only[bi]at this;exact this,q⟩
theorem Va{vs:List V}{Q:V->Prop}(h:Ia vs Q):BP G d (.builtin "abs") vs Q:=by
 obtain⟨v,e,h⟩:=xh h
 rw[e]
 exact gE h λx e q=>⟨.i _,by show cY G d _ [v.t] _;rw[e];exact cY.abs,q⟩
theorem OF{vs:List V}{Q:V->Prop}(h:Gm vs Q):BP G d (.builtin "max") vs Q:=by
 rcases J7 h with⟨v,e,h⟩|⟨v,w,e,h⟩
 ·rw[e]
  obtain⟨xs,e,a,q⟩:=dS h
  exact⟨.i _,by show cY G d _ [v.t] _;rw[V.asL_eq e];exact cY.maxL (wC a).1 (wC a).2,q⟩
 ·rw[e]
  exact gE h λx ex h=>gE h λy b q=>⟨.i _,by show cY G d _ [v.t,w.t] _;rw[ex,b];exact cY.max2,q⟩
theorem Sj{vs:List V}{Q:V->Prop}(h:Jg vs Q):BP G d (.builtin "min") vs Q:=by
 rcases J7 h with⟨v,e,h⟩|⟨v,w,e,h⟩
 ·exact h.elim
 ·rw[e]
  exact gE h λx ex h=>gE h λy a q=>⟨.i _,by show cY G d _ [v.t,w.t] _;rw[ex,a];exact cY.min2,q⟩
theorem N5{vs:List V}{Q:V->Prop}(h:GR vs Q):BP G d (.builtin "sum") vs Q:=by
 obtain⟨v,e,h⟩:=xh h
 rw[e]
 obtain⟨xs,e,q⟩:=dS h
 exact⟨.i _,by show cY G d _ [v.t] _;rw[V.asL_eq e];exact cY.sumL,q⟩
theorem T5{vs:List V}{Q:V->Prop}(h:Iy vs Q):BP G d (.builtin "any") vs Q:=by
 obtain⟨v,e,h⟩:=xh h
 rw[e]
 obtain⟨xs,e,q⟩:=dS h
 exact⟨.b _,by show cY G d _ [v.t] _;rw[V.asBs_eq e];exact cY.any,q⟩
noncomputable def qe:List (ag×((List V->(V->Prop)->Prop)×an)):=[("len",GA,.builtin "len"),("abs",Ia,.builtin "abs"),("max",Gm,.builtin "max"),("min",Jg,.builtin "min"),("sum",GR,.builtin "sum"),("any",Iy,.builtin "any")]
noncomputable def uO(f:ag):Bool:=(qe.lookup f).isSome
noncomputable def vc(f:ag):an:=match qe.lookup f with
 |some p=>p.2
 |none=>.none
def so(f:ag)(vs:List V)(Q:V->Prop):Prop:=match qe.lookup f with
 |some p=>p.1 vs Q
 |none=>False
def WE(G:aK)(P:bK)(D:Nat)(p:ag×((List V->(V->Prop)->Prop)×an)):Prop:=(∀d vs Q,p.2.1 vs Q->BP G d p.2.2 vs Q)/\(bU G P D->cI G p.1 p.2.2)/\pD p.2.2
theorem FW{P:bK}{D:Nat}: ∀p∈qe,WE G P D p:=by
 intro p hp
 unfold qe at hp
 repeat(first
  |(rcases bz.mp hp with e|hp;(subst e;first |exact⟨λa a a=>VP,bU.len,.b _⟩|exact⟨λa a a=>Va,bU.abs,.b _⟩|exact⟨λa a a=>OF,bU.max,.b _⟩|exact⟨λa a a=>Sj,bU.min,.b _⟩|exact⟨λa a a=>N5,bU.sum,.b _⟩|exact⟨λa a a=>T5,bU.any,.b _⟩)))
 cases hp
theorem IE{f:ag}{vs:List V}{Q:V->Prop}(h:so f vs Q):BP G d (vc f) vs Q:=by
 unfold so at h
 unfold vc
 cases e:qe.lookup f with
 |none=>rw[e]at h;exact h.elim
 |some p=>rw[e]at h;exact(FW (G:=G) (P:=⟨λa=>false,λa a a=>False,λa a a=>False,λa=>none⟩) (D:=0) _ (mem_of_lookup e)).1 d vs Q h
theorem JE{P:bK}{D:Nat}(a:bU G P D){f:ag}(h:uO f=true):cI G f (vc f)/\pD (vc f):=by
 obtain⟨p,e⟩:=or.mp (show(qe.lookup f).isSome=true from h)
 unfold vc
 rw[e]
 have :=(FW (G:=G) (P:=P) (D:=D) _ (mem_of_lookup e)).2
 exact⟨this.1 a,this.2⟩
def C5(P:bK)(r:aO)(nm:NM)(σ:Sg)(f:ag)(args:List Expr)(Q:V->Prop):Prop:=match args with
 | []=>False
 |a::as=>bif iP nm f&&(a::as).all bh then(bif uO f then sG r nm σ (a::as) λvs=>so f vs Q else bif P.fns f then sG r nm σ (a::as) λvs=>P.spec f vs Q else False)else False
def F9(r:aO)(nm:NM)(σ:Sg)(es:List Expr)(Q:V->Prop):Prop:=match es with
 | [x,y]=>bif bh x&&bh y then r.s nm σ x λa=>r.s nm σ y λb=>Q (.t2 a b)else False
 |_=>False
def U6(P:bK)(r:aO)(nm:NM)(σ:Sg)(Q:V->Prop)(v:EV):Prop:=match v with
 | .name x=>wP nm σ x Q
 | .neg x=>r.s nm σ x λa=>br a λi=>Q (.i (-i))
 | .bin l op rr=>r.s nm σ l λa=>r.s nm σ rr λb=>xl op a b Q
 | .subN x _ i=>hO nm σ x (λk xs=>r.s nm σ i λj=>lh (.l k xs) j Q) (wP nm σ x λb=>r.s nm σ i λj=>lh b j Q)
 | .sub v i=>r.s nm σ v λb=>r.s nm σ i λj=>lh b j Q
 | .tup es=>F9 r nm σ es Q
 | .callN f _ args=>C5 P r nm σ f args Q
 | .call f args=>C5 P r nm σ f args Q
 | .lit t=>Q t
 |_=>False
def sW(P:bK)(r:aO)(nm:NM)(σ:Sg)(e:Expr)(Q:V->Prop):Prop:=U6 P r nm σ Q (eM e)
theorem Jd{P:bK}{D:Nat}(b:bU G P D){n:Nat}{r:aO}(hr:bQ G n r){nm:NM}{σ:Sg}{f:ag}{args:List Expr}{p pos:ax}{Q:V->Prop}(hd:n<=d)(hD:D<=d)(hn:Γ.env.scope.names=nm)(hs:aN σ S)(h:C5 P r nm σ f args Q):
  Ev G d Γ S (.Call (.Name f p) args [] pos) (SP S Q):=by
 induction args with
 |nil=>exact h.elim
 |cons a as=>
  refine aj λg=>?_
  obtain⟨c,h⟩:=cQ h
  simp only[cO]at c
  obtain⟨hk,i⟩:=kq hn c.1
  refine g ?_
  cases hb:uO f<;>rw[hb]at h
  ·obtain⟨cf,h⟩:=cQ h
   refine Ev.call (b.fns f cf) hk i c.2 ((yh (pos:=pos) hr hd hn hs c.2 h).mono λts S' w=>?_)
   obtain⟨vs,e,es,q⟩:=w
   rw[e]
   refine(b.spec f vs Q d q hD).mono λt w=>?_
   obtain⟨v,e2,q2⟩:=w
   exact⟨v,e2,es,q2⟩
  ·have h:sG r nm σ (a::as) λvs=>so f vs Q:=h
   obtain⟨hg,hB⟩:=JE b hb
   refine Ev.callBuiltin hg hB hk i c.2 ((yh (pos:=pos) hr hd hn hs c.2 h).mono λts S' w=>?_)
   refine aj λg=>?_
   obtain⟨vs,e,es,q⟩:=w
   obtain⟨v,hc,q⟩:=IE (G:=G) (d:=d) q
   refine g ?_
   exact⟨v.t,by rw[e];exact hc,v,rfl,es,q⟩
theorem Ho{n:Nat}{r:aO}(hr:bQ G n r){nm:NM}{σ:Sg}{v i:Expr}{pos:ax}{Q:V->Prop}(hd:n<=d)(hn:Γ.env.scope.names=nm)(hs:aN σ S)(hp:dM i=true)(h:Ev G d Γ S v (SP S λb=>r.s nm σ i λj=>lh b j Q)):Ev G d Γ S (.Subscript v i pos) (SP S Q):=
 Ev.index hp (h.mono λt S1 w=>by
  obtain⟨v,e,es,q⟩:=w
  rw[e, ← es]
  exact hr.cS hd hn hs q λj q=>let⟨m,c,a,hb,q⟩:=xi q;⟨m,c.t,a,hb,c,rfl,rfl,q⟩)
theorem Ry{n:Nat}{r:aO}(hr:bQ G n r){nm:NM}{σ:Sg}{x:ag}{p pos:ax}{i:Expr}{Q:V->Prop}(hd:n<=d)(hn:Γ.env.scope.names=nm)(hs:aN σ S)(hp:dM i=true)(h:hO nm σ x (λk xs=>r.s nm σ i λj=>lh (.l k xs) j Q) (wP nm σ x λb=>r.s nm σ i λj=>lh b j Q)):Ev G d Γ S (.Subscript (.Name x p) i pos) (SP S Q):=
 mh hn hs h (λh=>Ho hr hd hn hs hp (GY hn hs h)) λk xs ho h=>by
  obtain⟨a,R,ho,_,_⟩:=ho
  refine Ev.indexOwn hp ho (hr.cS hd hn hs h λj q=>?_)
  obtain⟨j,c,g,hb,q⟩:=xi q
  refine⟨j,c.t,_,g,ho,?_,c,rfl,rfl,q⟩
  rcases hb with⟨ts,e,f⟩|⟨ts,e,_⟩
  ·cases e;exact f
  ·cases e
theorem O7{n:Nat}{r:aO}(hr:bQ G n r){nm:NM}{σ:Sg}{es:List Expr}{k:Nat}{pos:ax}{Q:V->Prop}(hd:n<=d)(hn:Γ.env.scope.names=nm)(hs:aN σ S)(h:F9 r nm σ es Q):Ev G d Γ S (.Tuple es k pos) (SP S Q):=by
 match es,h with
 | [x,y],h=>
  obtain⟨c,h⟩:=cQ h
  simp only[cO]at c
  exact Ev.tuple (b8.cons c.1 (hr.cS hd hn hs h λv q=>b8.cons c.2 (hr.cS hd hn hs q λw q=>b8.nil ⟨by simp only[eA];show 2<=16777216;decide,.t2 v w,rfl,rfl,q⟩)))
theorem QO{P:bK}{D:Nat}(a:bU G P D){n:Nat}{r:aO}(hr:bQ G n r){nm:NM}{σ:Sg}{e:Expr}{Q:V->Prop}(hd:n<=d)(hD:D<=d)(hn:Γ.env.scope.names=nm)(hs:aN σ S)(h:sW P r nm σ e Q):Ev G d Γ S e (SP S Q):=by
 have hi:=md e
 unfold sW at h
 generalize eM e=v at h hi
 revert h
 induction hi with
 |name=>exact λh=>GY hn hs h
 |neg=>exact λh=>Ev.neg (hr.cS hd hn hs h λv h=>gE h λx e q=>⟨x,e,.i (-x),rfl,rfl,q⟩)
 |bin=>exact λh=>Ev.bin (hr.cS hd hn hs h λv h=>hr.cS hd hn hs h λw h=>let⟨c,hb,q⟩:=Hv (G:=G) h;⟨c.t,hb,c,rfl,rfl,q⟩)
 |subN hp=>exact λh=>Ry hr hd hn hs hp h
 |sub hp=>exact λh=>Ho hr hd hn hs hp (hr.s hd hn hs h)
 |tup=>exact λh=>O7 hr hd hn hs h
 |callN=>exact λh=>Jd a hr hd hD hn hs h
 |call=>exact λh=>Jd a hr hd hD hn hs h
 |int=>exact λh=>Ev.int ⟨_,rfl,rfl,h⟩
 |str=>exact λh=>Ev.str ⟨_,rfl,rfl,h⟩
 |none=>exact λh=>Ev.noneC ⟨_,rfl,rfl,h⟩
 |bool=>exact λh=>Ev.boolC ⟨_,rfl,rfl,h⟩
 |_=>exact rg
def lW(r:aO)(nm:NM):Sg->List Expr->(List V->Sg->Prop)->Prop
 |σ,[],Q=>Q [] σ
 |σ,x::rest,Q=>r.e nm σ x λv ah=>lW r nm ah rest λvs σ2=>Q (v::vs) σ2
inductive LP(Q:List V->Sg->Prop)(ts:List T)(S':St):Prop
 |mk (vs:List V) (σ:Sg) (e:ts=vs.map V.t) (s:aN σ S') (q:Q vs σ)
theorem ur{n:Nat}{r:aO}(hr:bQ G n r){nm:NM}{pos:ax}(hd:n<=d)(hn:Γ.env.scope.names=nm): ∀{es:List Expr} {σ:Sg} {S:St} {Q:List V->Sg->Prop},aN σ S->es.all bh=true->lW r nm σ es Q->b8 G d Γ S pos es (LP Q)
 | [],σ,S,Q,hs,_,h=>b8.nil ⟨[],σ,rfl,hs,h⟩
 |x::rest,σ,S,Q,hs,hp,h=>by
  refine b8.cons (all_cons hp).1 ((hr.e hd hn hs h).mono λt S1 w=>?_)
  obtain⟨v,ah,e,s1,q⟩:=w
  refine(ur hr hd hn s1 (all_cons hp).2 q).mono λts S2 w=>?_
  obtain⟨vs,σ2,e2,s2,q2⟩:=w
  exact⟨v::vs,σ2,by simp only[e,e2];rfl,s2,q2⟩
def x6(P:bK)(r:aO)(nm:NM)(σ:Sg)(f:ag)(args:List Expr)(Q:V->Sg->Prop):Prop:=match args with
 | []=>False
 |a::as=>bif iP nm f&&(a::as).all bh then(bif uO f then lW r nm σ (a::as) λvs σ'=>so f vs λv=>Q v σ' else bif P.fns f then lW r nm σ (a::as) λvs σ'=>P.spec f vs λv=>Q v σ' else False)else False
theorem AM{P:bK}{D:Nat}(b:bU G P D){n:Nat}{r:aO}(hr:bQ G n r){nm:NM}{σ:Sg}{f:ag}{args:List Expr}{p pos:ax}{Q:V->Sg->Prop}(hd:n<=d)(hD:D<=d)(hn:Γ.env.scope.names=nm)(hs:aN σ S)(h:x6 P r nm σ f args Q):
  Ev G d Γ S (.Call (.Name f p) args [] pos) (WP Q):=by
 induction args with
 |nil=>exact h.elim
 |cons a as=>
  obtain⟨c,h⟩:=cQ h
  simp only[cO]at c
  obtain⟨hk,g⟩:=kq hn c.1
  cases hb:uO f<;>rw[hb]at h
  ·obtain⟨cf,h⟩:=cQ h
   refine Ev.call (b.fns f cf) hk g c.2 ((ur (pos:=pos) hr hd hn hs c.2 h).mono λts S' w=>?_)
   obtain⟨vs,σ',e,s',q⟩:=w
   rw[e]
   refine(b.spec f vs _ d q hD).mono λt w=>?_
   obtain⟨v,e2,q2⟩:=w
   exact⟨v,σ',e2,s',q2⟩
  ·have h:lW r nm σ (a::as) λvs σ'=>so f vs λv=>Q v σ':=h
   obtain⟨hg,hB⟩:=JE b hb
   refine Ev.callBuiltin hg hB hk g c.2 ((ur (pos:=pos) hr hd hn hs c.2 h).mono λts S' w=>?_)
   refine aj λi=>?_
   obtain⟨vs,σ',e,s',q⟩:=w
   obtain⟨v,hc,q⟩:=IE (G:=G) (d:=d) q
   refine i ?_
   exact⟨v.t,by rw[e];exact hc,v,σ',rfl,s',q⟩
end
section
variable {G:aK} {d:Nat} {Γ:Fm} {S:St}
def bE(n:Int):Prop:= -(2^61)<=n/\n<2^61
noncomputable def bD(a c:Int)(n:Nat):List Int:=(kR n).map λ(k:Nat)=>a+(k:Int)*c
theorem AO(a c:Int)(n:Nat):jJ a c n=(bD a c n).map (K.toT .I):=by
 unfold jJ bD;simp only[jy];rfl
noncomputable def fZ(xs:List Int):List (Int×Int):=xs.zipIdx.map λp=>((p.2:Int),p.1)
theorem QC(xs:List Int):lB (xs.map (K.toT .I))=(fZ xs).map (K.toT .R):=by
 unfold lB fZ
 simp only[List.zipIdx_map,jy,jy]
 rfl
noncomputable def oS(v:V):List V:=match v with
 | .t2 x y=>[x,y]
 | .t3 x y z=>[x,y,z]
 |_=>[]
theorem Dr{v:V}(h:oS v≠ []):v.t= .tup ((oS v).map V.t):=by
 cases v<;>first |rfl|exact absurd rfl h
set_option genCtorIdx false in
inductive IK where
 |range (es:List Expr)
 |rev (e:Expr)
 |enum (e:Expr)
 |tupv
 |val
noncomputable def Kx(tgt:Expr)(args:List Expr):IK:=match args with
 | [a]=>bif fN tgt || !bh a then .val else .rev a
 |_=>.val
noncomputable def Kl(e:Expr):Option {q:List Expr×Nat×ax//e= .Tuple q.1 q.2.1 q.2.2}:=xv (C:=λe=>Option {q:List Expr×Nat×ax//e= .Tuple q.1 q.2.1 q.2.2}) e (λes k p=>some ⟨(es,k,p),rfl⟩) none
noncomputable def isTup(tgt:Expr):Bool:=(Kl tgt).isSome
noncomputable def HD(tgt:Expr)(args:List Expr):IK:=match args with
 | [a]=>bif isTup tgt&&bh a then .enum a else .val
 |_=>.val
noncomputable def Ar(tgt:Expr)(f:ag)(args:List Expr):IK:=bif f==("range":ag)then(bif fN tgt then .val else .range args)
 else bif f==("reversed":ag)then Kx tgt args else bif f==("enumerate":ag)then HD tgt args else .val
noncomputable def W4(nm:NM)(tgt:Expr)(v:EV):IK:=match v with
 | .call f args=>bif iP nm f then Ar tgt f args else .val
 | .callN f _ args=>bif iP nm f then Ar tgt f args else .val
 | .tup _=>bif fN tgt then .val else .tupv
 |_=>.val
noncomputable def xO(nm:NM)(tgt e:Expr):IK:=W4 nm tgt (eM e)
inductive kE(Γ:Fm):Expr->Expr->IK->Prop
 |range {tgt args p pos}:fN tgt=false->Γ.env.kindOf "range"=some .globalImplicit->kE Γ tgt (.Call (.Name "range" p) args [] pos) (.range args)
 |rev {tgt a p pos}:fN tgt=false->bh a=true->Γ.env.kindOf "reversed"=some .globalImplicit->kE Γ tgt (.Call (.Name "reversed" p) [a] [] pos) (.rev a)
 |enum {es k tp a p pos}:bh a=true->Γ.env.kindOf "enumerate"=some .globalImplicit->kE Γ (.Tuple es k tp) (.Call (.Name "enumerate" p) [a] [] pos) (.enum a)
 |tupv {tgt e}:fN tgt=false->kE Γ tgt e .tupv
 |val {tgt e}:kE Γ tgt e .val
theorem N0{tgt:Expr}(h:isTup tgt=true): ∃es k p,tgt= .Tuple es k p:=by
 obtain⟨q,_⟩:=or.mp (show(Kl tgt).isSome=true from h)
 exact⟨_,_,_,q.2⟩
theorem nM{tgt e:Expr}{b:Bool}{x y:IK}(hx:b=true->kE Γ tgt e x)(a:b=false->kE Γ tgt e y):kE Γ tgt e (bif b then x else y):=by
 induction b with
 |true=>exact hx rfl
 |false=>exact a rfl
theorem Se{tgt:Expr}{p pos:ax}(hk:Γ.env.kindOf "reversed"=some .globalImplicit): ∀(args:List Expr),kE Γ tgt (.Call (.Name "reversed" p) args [] pos) (Kx tgt args)
 | []=>.val
 | [a]=>nM (λz_=>.val) λh=>by
  rw[Bool.or_eq_false_iff,Bool.not_eq_false']at h
  exact .rev h.1 h.2 hk
 |_::_::_=>.val
theorem QY{tgt:Expr}{p pos:ax}(hk:Γ.env.kindOf "enumerate"=some .globalImplicit): ∀(args:List Expr),kE Γ tgt (.Call (.Name "enumerate" p) args [] pos) (HD tgt args)
 | []=>.val
 | [a]=>nM (λh=>by
  simp only[cO]at h
  obtain⟨es,k,tp,rfl⟩:=N0 h.1
  exact .enum h.2 hk) λz_=>.val
 |_::_::_=>.val
theorem GZ{tgt:Expr}{f:ag}{p pos:ax}{args:List Expr}(hk:Γ.env.kindOf f=some .globalImplicit):kE Γ tgt (.Call (.Name f p) args [] pos) (Ar tgt f args):=
 nM (λh=>by obtain rfl:=beq_iff_eq.mp h;exact nM (λa=>.val) λb=>.range b hk) λa=>
  nM (λh=>by obtain rfl:=beq_iff_eq.mp h;exact Se hk args) λa=>nM (λh=>by obtain rfl:=beq_iff_eq.mp h;exact QY hk args) λa=>.val
theorem Td{nm:NM}{tgt e:Expr}(hn:Γ.env.scope.names=nm):kE Γ tgt e (xO nm tgt e):=by
 have hi:=md e
 unfold xO
 generalize eM e=v at hi
 induction hi with
 |call=>exact nM (λhg=>GZ (kq hn hg).1) λa=>.val
 |callN=>exact nM (λhg=>GZ (kq hn hg).1) λa=>.val
 |tup=>exact nM (λa=>.val) λhg=>.tupv hg
 |_=>exact .val
def IU(r:aO)(nm:NM)(σ:Sg)(es:List Expr)(Q:List Int->Sg->Prop):Prop:=bif es.all bh then(match es with
 | [a]=>r.e nm σ a λv ah=>br v λn=>bE n/\Q (bD 0 1 n.toNat) ah
 | [a,b]=>r.e nm σ a λv ah=>r.e nm ah b λw σ2=>br v λm=>br w λn=>(bE m/\bE n)/\Q (bD m 1 (n-m).toNat) σ2
 | [a,b,c]=>r.e nm σ a λv ah=>r.e nm ah b λw σ2=>r.e nm σ2 c λu d=>br v λm=>br w λn=>br u λk=>(bE m/\bE n/\k= -1)/\Q (bD m (-1) (m-n).toNat) d
 |_=>False)else False
def IV(vs:List V)(Q:(k:K)->List k.D->Prop):Prop:=match vs with
 | []=>False
 |p::ps=>a9 (yj p.kind (p::ps)) λxs=>Q p.kind xs
def Oi(r:aO)(nm:NM)(σ:Sg)(e:Expr)(Q:(k:K)->List k.D->Sg->Prop)(v:IK):Prop:=match v with
 | .range es=>IU r nm σ es λxs ah=>Q .I xs ah
 | .rev a=>r.e nm σ a λv ah=>lz v λk xs=>Q k xs.reverse ah
 | .enum a=>r.e nm σ a λv ah=>a9 v.asL λxs=>Q .R (fZ xs) ah
 | .tupv=>r.e nm σ e λv ah=>IV (oS v) λk xs=>Q k xs ah
 | .val=>r.e nm σ e λv ah=>lz v λk xs=>Q k xs ah
def jN(r:aO)(nm:NM)(σ:Sg)(tgt e:Expr)(Q:(k:K)->List k.D->Sg->Prop):Prop:=Oi r nm σ e Q (xO nm tgt e)
theorem Ni{P:bK}{D:Nat}(g:bU G P D){n:Nat}{r:aO}(hr:bQ G n r){nm:NM}{σ:Sg}{tgt:Expr}{es:List Expr}{p pos:ax}{Q:List Int->Sg->Prop}(hd:n<=d)(hn:Γ.env.scope.names=nm)(hs:aN σ S)(f:fN tgt=false)(hk:Γ.env.kindOf "range"=some .globalImplicit)
  (h:IU r nm σ es Q):ck G d Γ S tgt (.Call (.Name "range" p) es [] pos) (OP λk xs ah=>∃ys,xs.map k.toT=ys.map (K.toT .I)/\Q ys ah):=by
 obtain⟨c,h⟩:=cQ h
 match es,c,h with
 | [a],c,h=>exact ck.range1 g.range hk f (all_cons c).1 (hr.cE hd hn hs h λv ah S1 s1 h=>gE h λm e q=>⟨m,e,jf q.1.2 (by decide),bb (by decide) q.1.1,.I,_,ah,AO _ _ _,s1,_,rfl,q.2⟩)
 | [a,b],c,h=>
  have c1:=all_cons c
  exact ck.range2 g.range hk f c1.1 (all_cons c1.2).1 (hr.cE hd hn hs h λv ah S1 s1 h=>hr.cE hd hn s1 h λv2 σ2 S2 s2 h=>gE h λm e h=>gE h λk e2 q=>
   ⟨m,k,e,e2,⟨bb (by decide) q.1.1.1,jf q.1.1.2 (by decide),bb (by decide) q.1.2.1,jf q.1.2.2 (by decide)⟩,.I,_,σ2,AO _ _ _,s2,_,rfl,q.2⟩)
 | [a,b,c'],c,h=>
  have c1:=all_cons c
  have c2:=all_cons c1.2
  exact ck.range3 g.range hk f c1.1 c2.1 (all_cons c2.2).1 (hr.cE hd hn hs h λv ah S1 s1 h=>hr.cE hd hn s1 h λv2 σ2 S2 s2 h=>hr.cE hd hn s2 h λv3 l S3 s3 h=>gE h λm e h=>gE h λk e2 h=>gE h λj i q=>
   ⟨m,k,e,e2,by rw[i,q.1.2.2],⟨q.1.1.1,q.1.1.2,q.1.2.1.1,q.1.2.1.2⟩,.I,_,l,AO _ _ _,s3,_,rfl,q.2⟩)
theorem Q9{v:V}{Q:(k:K)->List k.D->Prop}(h:IV (oS v) Q): ∃(k:K) (xs:List k.D),v.t= .tup (xs.map k.toT)/\Q k xs:=by
 cases ep:oS v with
 |nil=>rw[ep]at h;exact h.elim
 |cons p ps=>
  rw[ep]at h
  obtain⟨xs,e2,q⟩:=dS h
  exact⟨p.kind,xs,by rw[Dr (by rw[ep];exact Mw _ _),ep,Ds e2],q⟩
theorem sR{P:bK}{D:Nat}(b:bU G P D){n:Nat}{r:aO}(hr:bQ G n r){nm:NM}{σ:Sg}{tgt e:Expr}{Q:(k:K)->List k.D->Sg->Prop}(hd:n<=d)(hn:Γ.env.scope.names=nm)(hs:aN σ S)
  (h:jN r nm σ tgt e Q):ck G d Γ S tgt e (OP Q):=by
 have hi:=Td (tgt:=tgt) (e:=e) hn
 unfold jN at h
 generalize xO nm tgt e=v at h hi
 revert h hs
 induction hi with
 |range a hk=>exact λhs h=>ck.mono' (Ni b hr hd hn hs a hk h) λts S1 w=>let⟨k,xs,ah,e,s1,ys,e2,q⟩:=w;⟨.I,ys,ah,e.trans e2,s1,q⟩
 |rev a hp hk=>exact λhs h=>ck.rev b.rev hk a hp (hr.cE hd hn hs h λv ah S1 s1 h=>ut h λk xs e q=>⟨_,e,k,xs.reverse,ah,by simp only[List.map_reverse],s1,q⟩)
 |enum hp hk=>exact λhs h=>ck.enum b.enum hk hp (hr.cE hd hn hs h λv ah S1 s1 h=>let⟨xs,ev,q⟩:=dS h;⟨_,by rw[V.asL_eq ev];rfl,.R,fZ xs,ah,QC xs,s1,q⟩)
 |tupv a=>exact λhs h=>ck.tuple a (hr.cE hd hn hs h λv ah S1 s1 h=>let⟨k,xs,e,q⟩:=Q9 h;⟨_,e,k,xs,ah,rfl,s1,q⟩)
 |val=>exact λhs h=>ck.list (hr.cE hd hn hs h λv ah S1 s1 h=>ut h λk xs e q=>⟨_,e,k,xs,ah,rfl,s1,q⟩)
def qu(nm:NM):Sg->List ag->List V->(Sg->Prop)->Prop
 |σ,[],[],Q=>Q σ
 |σ,x::xs,v::vs,Q=>jR nm σ x (.fr v) λah=>qu nm ah xs vs Q
 |_,_,_,_=>False
inductive Dt(Γ:Fm)(S:St)(es:List Expr)(ts:List T)(Q:Sg->Prop):Prop
 |mk (S':St) (σ':Sg) (p:kD Γ es ts S S') (s:aN σ' S') (q:Q σ')
theorem W2{nm:NM}(hn:Γ.env.scope.names=nm): ∀{ps:List (ag×ax)} {vs:List V} {σ:Sg} {S:St} {Q:Sg->Prop},aN σ S->qu nm σ (ps.map ai) vs Q->Dt Γ S (ps.map λq=>.Name q.1 q.2) (vs.map V.t) Q:=by
 intro ps
 induction ps with
 |nil=>
  intro vs σ S Q hs h
  induction vs with
  |nil=>exact⟨S,σ,.nil,hs,h⟩
  |cons _ _=>exact h.elim
 |cons q ps a=>
  intro vs σ S Q hs h
  induction vs with
  |nil=>exact h.elim
  |cons v vs=>
   obtain⟨S1,ah,hp,s1,h⟩:=xW (r:=.fr v.t) hn hs (.fr rfl) (show jR nm σ q.1 (.fr v) (λah=>qu nm ah (ps.map ai) vs Q)from h)
   obtain⟨S2,σ2,b,s2,q⟩:=a s1 h
   exact⟨S2,σ2,.cons hp b,s2,q⟩
theorem Gd{nm:NM}(hn:Γ.env.scope.names=nm){es:List Expr}{vs:List V}{σ:Sg}{S:St}{Q:Sg->Prop}(ha:jk es=true)(hs:aN σ S)(h:qu nm σ (iQ es) vs Q):Dt Γ S es (vs.map V.t) Q:=by
 obtain⟨ps,e1,e2⟩:=AH ha
 rw[e2]at h
 rw[e1]
 exact W2 hn hs h
def IZ(nm:NM)(σ:Sg)(xs:List ag)(vs:List V)(Q:Sg->Prop):Prop:=match vs with
 | []=>False
 |p::ps=>qu nm σ xs (p::ps) Q
theorem TS{nm:NM}{σ:Sg}{xs:List ag}{vs:List V}{Q:Sg->Prop}(h:IZ nm σ xs vs Q):vs≠ []/\qu nm σ xs vs Q:=by
 induction vs with
 |nil=>exact h.elim
 |cons p ps=>exact⟨Mw _ _,h⟩
def Te(nm:NM)(σ:Sg)(v:V)(Q:Sg->Prop)(w:TV):Prop:=match w with
 | .name x=>jR nm σ x (.fr v) Q
 | .tup xs=>IZ nm σ xs (oS v) Q
 | .no=>False
def mx(nm:NM)(σ:Sg)(tgt:Expr)(v:V)(Q:Sg->Prop):Prop:=Te nm σ v Q (uX tgt)
inductive N3(Γ:Fm)(S:St)(tgt:Expr)(t:T)(Q:Sg->Prop):Prop
 |mk (S':St) (σ':Sg) (p:iO Γ tgt t S S') (s:aN σ' S') (q:Q σ')
theorem sP{nm:NM}(hn:Γ.env.scope.names=nm){tgt:Expr}{v:V}{σ:Sg}{Q:Sg->Prop}(hs:aN σ S)(h:mx nm σ tgt v Q):N3 Γ S tgt v.t Q:=by
 have hi:=Im tgt
 unfold mx at h
 generalize uX tgt=w at h hi
 revert h
 induction hi with
 |name=>
  intro h
  obtain⟨S1,ah,hp,s1,h⟩:=xW (r:=.fr v.t) hn hs (.fr rfl) h
  exact⟨S1,ah,.name hp,s1,h⟩
 |tup ha=>
  intro h
  obtain⟨h0,h⟩:=TS h
  obtain⟨S1,ah,hp,s1,q⟩:=Gd hn ha hs h
  exact⟨S1,ah,(Dr h0).symm▸ .tup hp,s1,q⟩
 |no=>exact rg
noncomputable def fL(scope:b9):SL:=(fh scope.names).map λx=>(x,.any)
theorem DL(scope:b9):dJ (fL scope) (mB scope):=by
 unfold fL mB
 induction fh scope.names with
 |nil=>exact .nil
 |cons x xs a=>exact .cons .any a
noncomputable def nH(a b:SL):Bool:=a.map ai==b.map ai
def Jl(r:aO)(nm:NM)(X:Sg)(elt:Expr)(ifs:List Expr)(k:K)(B:Bool)(y:k.D)(σ2:Sg):Prop:=match ifs with
 | []=>r.e nm σ2 elt λw a=>bif nH a.l X.l then k.of w=some y/\a.c=X.c else False
 | [c]=>r.t nm σ2 c λb a=>b=B/\(B=false->bif nH a.l X.l then a.c=X.c else False)/\(B=true->r.e nm a elt λw d=>bif nH d.l X.l then k.of w=some y/\d.c=X.c else False)
 |_=>False
def uS(r:aO)(nm:NM)(X:Sg)(tgt elt:Expr)(ifs:List Expr)(v:V)(k:K)(B:Bool)(y:k.D):Prop:=mx nm X tgt v λσ2=>Jl r nm X elt ifs k B y σ2
end
section
variable {G:aK} {d:Nat} {Γ:Fm} {S:St}
noncomputable def uc(elt:Expr):Option K:=match eM elt with
 | .tup _=>none
 | .call f _=>bif f==("kept_off":ag)||f==("is_inside":ag)||f==("_law_root":ag)then none else some .I
 | .callN f _ _=>bif f==("kept_off":ag)||f==("is_inside":ag)||f==("_law_root":ag)then none else some .I
 |_=>some .I
def sK(o:Option K)(P:K->Prop):Prop:=match o with
 |some k=>P k
 |none=>∃k,P k
theorem BB{o:Option K}{P:K->Prop}(h:sK o P): ∃k,P k:=by
 induction o with
 |some k=>exact⟨k,h⟩
 |none=>exact h
def Ah(r:aO)(nm:NM)(σ:Sg)(elt tgt iter:Expr)(ifs:List Expr)(scope:b9)(Q:(k:K)->List k.D->Sg->Prop):Prop:=
 bif iw nm (σ.c.map ai) scope&&dX iter then
  jN r nm σ tgt iter λk xs ah=>xs.length<=1000000/\match ifs with
   | []=>sK (uc elt) λk'=>∃F:k.D->k'.D,(∀x,x∈xs->uS r (ff nm scope.names) ⟨fL scope,ah.c⟩ tgt elt ifs (k.toV x) k' true (F x))/\Q k' (xs.map F) ah
   |_=>sK (uc elt) λk'=>∃(B:k.D->Bool) (F:k.D->k'.D),(∀x,x∈xs->uS r (ff nm scope.names) ⟨fL scope,ah.c⟩ tgt elt ifs (k.toV x) k' (B x) (F x))/\Q k' ((xs.filter B).map F) ah
 else False
theorem VK{r:aO}{nm:NM}{ah:Sg}{elt tgt:Expr}{ifs:List Expr}{scope:b9}{Q:(k:K)->List k.D->Sg->Prop}{k:K}{xs:List k.D}(h:match ifs with
   | []=>sK (uc elt) λk'=>∃F:k.D->k'.D,(∀x,x∈xs->uS r (ff nm scope.names) ⟨fL scope,ah.c⟩ tgt elt ifs (k.toV x) k' true (F x))/\Q k' (xs.map F) ah
   |_=>sK (uc elt) λk'=>∃(B:k.D->Bool) (F:k.D->k'.D),(∀x,x∈xs->uS r (ff nm scope.names) ⟨fL scope,ah.c⟩ tgt elt ifs (k.toV x) k' (B x) (F x))/\Q k' ((xs.filter B).map F) ah):
  ∃(k':K) (B:k.D->Bool) (F:k.D->k'.D),(ifs=[]->∀x,B x=true)/\(∀x,x∈xs->uS r (ff nm scope.names) ⟨fL scope,ah.c⟩ tgt elt ifs (k.toV x) k' (B x) (F x))/\Q k' ((xs.filter B).map F) ah:=by
 induction ifs with
 |nil=>
  refine aj λb=>?_
  obtain⟨k',F,h1,h2⟩:=BB h
  refine b ?_
  refine⟨k',λa=>true,F,λa a=>rfl,h1,?_⟩
  rw[List.filter_eq_self.mpr (λa a=>rfl)];exact h2
 |cons c cs=>
  refine aj λb=>?_
  obtain⟨k',B,F,h1,h2⟩:=BB h
  refine b ?_
  exact⟨k',B,F,(λe=>by cases e),h1,h2⟩
theorem xR: ∀{σ:SL} {l:cL},(∀p∈σ,p.2= .any)->σ.map ai=l.map ai->dJ σ l
 | [],[],_,_=>.nil
 | [],_::_,_,h=>nomatch h
 |_::_,[],_,h=>nomatch h
 |(x,s)::σ,(y,t)::l,ha,h=>by
  simp only[gr,gr,List.cons.injEq]at h
  obtain⟨e,h⟩:=h
  have e:x=y:=e
  have e2:s= .any:=ha (x,s) (.head _)
  subst e e2
  exact .cons .any (xR (λp hp=>ha p (.tail _ hp)) h)
theorem Dl(scope:b9): ∀p∈fL scope,p.2= .any:=by
 intro p hp
 obtain⟨x,_,rfl⟩:=bF.mp hp
 rfl
theorem Pq{α:Type}{xs:List α}{k:Nat}{x:α}(B:α->Bool)(h:xs[k]? =some x):(xs.take (k+1)).filter B=(xs.take k).filter B++(bif B x then [x]else []):=by
 simp only[gS,h,List.filter_append]
 cases hb:B x<;>simp[hb]
inductive CJ(k:K)(xs:List k.D)(k':K)(B:k.D->Bool)(F:k.D->k'.D)(scope:b9)(c:SL)(n:Nat)(acc:List T)(X:St):Prop
 |mk (h:n<=xs.length) (e:acc=(((xs.take n).filter B).map F).map k'.toT) (l:dJ (fL scope) X.l) (cc:dJ c X.c)
theorem TX{n:Nat}{r:aO}(hr:bQ G n r){nm:NM}{X σ2:Sg}{X2:St}{elt:Expr}{ifs:List Expr}{k:K}{B:Bool}{y:k.D}{i:St->Prop}{g:T->St->Prop}(hd:n<=d)(hn:Γ.env.scope.names=nm)(s2:aN σ2 X2)(hB:ifs=[]->B=true)
  (h0:B=false->∀{a:Sg} {X3:St},aN a X3->a.c=X.c->nH a.l X.l=true->i X3) (h1:B=true->∀{a:Sg} {X3:St} {u:T},u=k.toT y->aN a X3->a.c=X.c->nH a.l X.l=true->g u X3):Jl r nm X elt ifs k B y σ2->KG G d Γ elt ifs X2 i g:=by
 induction ifs with
 |nil=>exact λh=>hr.cE hd hn s2 h λw a X3 s3 h=>have q:=cQ h;h1 (hB rfl) (K.of_t q.2.1) s3 q.2.2 q.1
 |cons c cs=>
  induction cs with
  |nil=>exact λh=>hr.cT hd hn s2 h λb a X3 s3 q=>⟨λf=>have e:=q.1.symm.trans f;have q2:=cQ (q.2.1 e);h0 e s3 q2.2 q2.1,λf=>have e:=q.1.symm.trans f;hr.cE hd hn s3 (q.2.2 e) λw vN X4 s4 h=>have q:=cQ h;h1 e (K.of_t q.2.1) s4 q.2.2 q.1⟩
  |cons _ _=>exact rg
theorem Iq{scope:b9}{c:SL}{a:Sg}{X3:St}(s3:aN a X3)(e1:a.c=c)(e2:nH a.l (fL scope)=true):dJ (fL scope) X3.l/\dJ c X3.c:=
 ⟨xR (Dl scope) (eq_of_beq e2▸s3.l.keys),e1▸s3.c⟩
theorem Rk{P:bK}{D:Nat}(o:bU G P D){n:Nat}{r:aO}(hr:bQ G n r){nm:NM}{σ:Sg}{elt tgt iter:Expr}{ifs:List Expr}{scope:b9}{Q:(k:K)->List k.D->Sg->Prop}(hd:n<=d)(hn:Γ.env.scope.names=nm)(hs:aN σ S)
  (h:Ah r nm σ elt tgt iter ifs scope Q):dX iter=true/\iw Γ.env.scope.names (S.c.map ai) scope=true/\nF G d Γ S tgt elt iter ifs scope (OP Q):=by
 refine aj λb=>?_
 obtain⟨c,h⟩:=cQ h
 refine b ?_
 simp only[cO]at c
 refine⟨c.2,by rw[hn, ← hs.c.keys];exact c.1,ck.mono' (sR o hr hd hn hs h) λbl S1 w=>?_⟩
 refine aj λb=>?_
 obtain⟨k,xs,ah,e,s1,hz,w⟩:=w
 obtain⟨k',B,F,hB,turn,q⟩:=VK w
 refine b ?_
 rw[e]
 refine⟨CJ k xs k' B F scope ah.c,⟨dx _,rfl,DL scope,s1.c⟩,λΓ' v i t acc X g w=>?_,λi acc X w=>?_,λacc X w=>?_⟩
 ·obtain⟨hi,a,hl,hc⟩:=w
  rw[jd]at g
  refine aj λb=>?_
  obtain⟨x,hx,s⟩:=lX.mp g
  have f:=Pq B hx
  have m:=(gv.mp hx).1
  have j:Γ'.env.scope.names=ff nm scope.names:=by rw[v,hn]
  obtain⟨X2,σ2,hb,s2,q2⟩:=sP (S:=X) j (⟨hl,hc⟩:aN ⟨fL scope,ah.c⟩ X) (turn x (kh hx))
  refine b ?_
  rw[K.vt,s]at hb
  exact⟨X2,hb,TX (X:=⟨fL scope,ah.c⟩) hr hd j s2 (λe=>hB e x) (λeB y X3 s3 e1 e2=>have nx:=Iq s3 e1 e2;⟨m,by simp only[f,eB,a];simp,nx.1,nx.2⟩) (λeB y X3 u p s3 e1 e2=>have nx:=Iq s3 e1 e2;⟨m,by simp only[f,eB,a,p];simp,nx.1,nx.2⟩) q2⟩
 ·obtain⟨hi,a,hl,hc⟩:=w
  simp only[a,bi,bi,eA]
  exact d7 (aZ (rA B _) (aZ (List.length_take_le' _ _) hz)) (by decide)
 ·obtain⟨hi,a,hl,hc⟩:=w
  rw[bi,e9 (cR _)]at a
  exact⟨k',_,ah,a,⟨s1.l,hc⟩,q⟩
noncomputable def A3(scope:b9):Bool:=(scope.names.lookup ("box":ag)).isSome
def TQ(r:aO)(nm:NM)(X:Sg)(tgt elt:Expr)(v:V)(k:K)(Pr:k.D->Prop):Prop:=mx nm X tgt v λσ2=>r.e nm σ2 elt λw a=>bif nH a.l X.l then(a9 (k.of w) λy=>Pr y)/\a.c=X.c else False
def Cj(r:aO)(nm:NM)(σ:Sg)(elt tgt iter:Expr)(scope:b9)(Q:(k:K)->List k.D->Sg->Prop):Prop:=
 bif iw nm (σ.c.map ai) scope&&dX iter then
  jN r nm σ tgt iter λk xs ah=>xs.length<=1000000/\sK (uc elt) λk'=>∃Pr:k'.D->Prop,(∀x,x∈xs->TQ r (ff nm scope.names) ⟨fL scope,ah.c⟩ tgt elt (k.toV x) k' Pr)/\∀ys:List k'.D,ys.length=xs.length->(∀y,y∈ys->Pr y)->Q k' ys ah
 else False
inductive Vq(k':K)(m:Nat)(Pr:k'.D->Prop)(scope:b9)(c:SL)(n:Nat)(acc:List T)(X:St):Prop
 |mk (ys:List k'.D) (h:n<=m) (hl:ys.length=n) (hp: ∀y,y∈ys->Pr y) (e:acc=ys.map k'.toT) (l:dJ (fL scope) X.l) (cc:dJ c X.c)
theorem Wg{P:bK}{D:Nat}(p:bU G P D){n:Nat}{r:aO}(hr:bQ G n r){nm:NM}{σ:Sg}{elt tgt iter:Expr}{scope:b9}{Q:(k:K)->List k.D->Sg->Prop}(hd:n<=d)(hn:Γ.env.scope.names=nm)(hs:aN σ S)
  (h:Cj r nm σ elt tgt iter scope Q):dX iter=true/\iw Γ.env.scope.names (S.c.map ai) scope=true/\nF G d Γ S tgt elt iter [] scope (OP Q):=by
 refine aj λa=>?_
 obtain⟨c,h⟩:=cQ h
 refine a ?_
 simp only[cO]at c
 refine⟨c.2,by rw[hn, ← hs.c.keys];exact c.1,ck.mono' (sR p hr hd hn hs h) λbl S1 w=>?_⟩
 refine aj λa=>?_
 obtain⟨k,xs,ah,e,s1,hz,w⟩:=w
 obtain⟨k',Pr,turn,q⟩:=BB w
 refine a ?_
 subst e
 refine⟨Vq k' xs.length Pr scope ah.c,⟨[],dx _,rfl,(λy o=>nomatch o),rfl,DL scope,s1.c⟩,λΓ' C i t acc X g w=>?_,λi acc X w=>?_,λacc X w=>?_⟩
 ·obtain⟨ys,hi,hl,hp,b,f,hc⟩:=w
  rw[jd]at g
  refine aj λa=>?_
  obtain⟨x,hx,B⟩:=lX.mp g
  have E:=(gv.mp hx).1
  have j:Γ'.env.scope.names=ff nm scope.names:=by rw[C,hn]
  obtain⟨X2,σ2,hb,s2,q2⟩:=sP (S:=X) j (⟨f,hc⟩:aN ⟨fL scope,ah.c⟩ X) (turn x (kh hx))
  refine a ?_
  rw[K.vt,B]at hb
  refine⟨X2,hb,(hr.e hd j s2 q2).mono λu X3 w=>?_⟩
  refine aj λa=>?_
  obtain⟨v,bR,A,s3,m⟩:=w
  obtain⟨e2,ev,e1⟩:=cQ m
  obtain⟨y,s,py⟩:=dS ev
  refine a ?_
  refine⟨ys++[y],E,by rw[fF,hl];rfl,λz hz=>?_,by simp only[b,A,K.of_t s];simp,xR (Dl scope) (eq_of_beq e2▸s3.l.keys),e1▸s3.c⟩
  rcases iI.mp hz with hz|hz
  ·exact hp z hz
  ·obtain rfl:=bC.mp hz;exact py
 ·obtain⟨ys,hi,hl,hp,b,f,hc⟩:=w
  simp only[b,bi,eA];lia
 ·obtain⟨ys,hi,hl,hp,b,f,hc⟩:=w
  simp only[bi]at hl
  exact⟨k',ys,ah,b,⟨s1.l,hc⟩,q ys hl hp⟩
noncomputable def rQ(σ:Sg)(y:ag):Sg:=⟨fO σ.l y .any,σ.c⟩
theorem CY{σ:Sg}{y:ag}(h:aN σ S):aN (rQ σ y) S:=by
 refine⟨?_,h.c⟩
 have : ∀{σ:SL} {l:cL},dJ σ l->dJ (fO σ y .any) l:=λ{σ l} m=>by
  induction m with
  |nil=>exact .nil
  | @cons x s t σ l hs hm a=>
   show dJ (bif x==y then(x,.any)::σ else(x,s)::fO σ y .any) _
   cases x==y with
   |true=>exact .cons .any hm
   |false=>exact .cons hs a
 exact this h.l
def Di(r:aO)(nm:NM)(σ:Sg)(elt t1 i1 t2 i2:Expr)(scope:b9)(Q:List Int->Sg->Prop):Prop:=match uX t2 with
 | .name z=>bif iw nm (σ.c.map ai) scope&&dX i1&&dX i2 then
  jN r nm σ t1 i1 λk xs ah=>∃F:k.D->List Int,(∀x,x∈xs->mx (ff nm scope.names) ⟨fL scope,ah.c⟩ t1 (k.toV x) λσ2=>jN r (ff nm scope.names) σ2 t2 i2 λk2 ys a=>
   ∃f:k2.D->Int,(∀y,y∈ys->mx (ff nm scope.names) (rQ a z) t2 (k2.toV y) λb=>r.e (ff nm scope.names) b elt λw d=>w= .i (f y)/\rQ d z=rQ a z)/\(nH a.l (fL scope)=true/\a.c=ah.c)/\F x=ys.map f)/\
   (xs.map F).flatten.length<=1000000/\Q (xs.map F).flatten ah else False
 |_=>False
inductive Qy(k:K)(xs:List k.D)(F:k.D->List Int)(scope:b9)(c:SL)(n:Nat)(acc:List T)(X:St):Prop
 |mk (h:n<=xs.length) (e:acc=((xs.take n).map F).flatten.map (K.toT .I)) (l:dJ (fL scope) X.l) (cc:dJ c X.c)
inductive Ww(pre:List Int)(k2:K)(ys:List k2.D)(f:k2.D->Int)(σ:Sg)(n:Nat)(acc:List T)(X:St):Prop
 |mk (h:n<=ys.length) (e:acc=(pre++(ys.take n).map f).map (K.toT .I)) (s:aN σ X)
theorem WD{α:Type}{xs:List α}{F:α->List Int}{i:Nat}{x:α}(hx:xs[i]? =some x):((xs.take (i+1)).map F).flatten=((xs.take i).map F).flatten++F x:=by
 simp only[gS,hx,jX,XK];simp
theorem NS{α:Type}{xs:List α}{F:α->List Int}{i:Nat}:((xs.take i).map F).flatten.length<=(xs.map F).flatten.length:=by
 conv=>rhs;rw[← iJ i xs,jX,XK,fF]
 lia
theorem WH{P:bK}{D:Nat}(M:bU G P D){n:Nat}{r:aO}(hr:bQ G n r){nm:NM}{σ:Sg}{elt t1 i1 t2 i2:Expr}{scope:b9}{Q:List Int->Sg->Prop}(hd:n<=d)(hn:Γ.env.scope.names=nm)(hs:aN σ S)
  (h:Di r nm σ elt t1 i1 t2 i2 scope Q):dX i1=true/\dX i2=true/\iw Γ.env.scope.names (S.c.map ai) scope=true/\rY G d Γ S t1 i1 t2 i2 elt scope (OP λk xs ah=>∃ys,xs.map k.toT=ys.map (K.toT .I)/\Q ys ah):=by
 unfold Di at h
 have H:=Im t2
 generalize uX t2=w at h H
 induction H with
 | @name z p=>
  obtain⟨c,h⟩:=cQ h
  simp only[cO]at c
  refine⟨c.1.2,c.2,by simp only[hn, ← hs.c.keys];exact c.1.1,ck.mono' (sR M hr hd hn hs h) λbl S1 w=>?_⟩
  refine aj λa=>?_
  obtain⟨k,xs,ah,e,s1,F,turn,hz,q⟩:=w
  refine a ?_
  subst e
  refine⟨Qy k xs F scope ah.c,⟨dx _,rfl,DL scope,s1.c⟩,λΓ' cU i t acc X L w=>?_,λacc X w=>?_⟩
  ·obtain⟨hi,o,hl,hc⟩:=w
   simp only[jd]at L
   refine aj λa=>?_
   obtain⟨x,hx,et⟩:=lX.mp L
   have bB:=(gv.mp hx).1
   have s:Γ'.env.scope.names=ff nm scope.names:=by simp only[cU,hn]
   obtain⟨X2,σ2,hb,s2,q2⟩:=sP (S:=X) s (⟨hl,hc⟩:aN ⟨fL scope,ah.c⟩ X) (turn x (kh hx))
   refine a ?_
   simp only[K.vt,et]at hb
   refine⟨X2,hb,ck.mono' (sR M hr hd s s2 q2) λtq X3 w=>?_⟩
   refine aj λa=>?_
   obtain⟨k2,ys,E,e3,s3,f,b,⟨hk,B⟩,N⟩:=w
   refine a ?_
   subst e3
   have W:=WD (F:=F) hx
   refine⟨Ww ((xs.take i).map F).flatten k2 ys f (rQ E z),⟨dx _,by simp only[o];simp,CY s3⟩,λj u U X4 J w=>?_,λU X4 w=>?_⟩
   ·obtain⟨hj,g,s4⟩:=w
    simp only[jd]at J
    refine aj λa=>?_
    obtain⟨y,A,eu⟩:=lX.mp J
    refine a ?_
    have m:=(gv.mp A).1
    have hlen:U.length<=1000000:=by
     have h1:=NS (xs:=xs) (F:=F) (i:=i+1)
     simp only[W,fF,N,bi]at h1
     simp only[g,bi,fF,bi,kX];trivial
    obtain⟨X5,Li,O,s5,Z⟩:=sP s s4 (b y (kh A))
    simp only[K.vt,eu]at O
    refine⟨by simp only[eA];trivial,X5,O,(hr.e hd s s5 Z).mono λt X6 w=>?_⟩
    refine aj λa=>?_
    obtain⟨v,σ6,C,Y,ev,e6⟩:=w
    refine a ?_
    refine⟨m,?_,by simp only[← e6];exact CY Y⟩
    simp only[g,C,ev,gS,A]
    simp[K.toT,V.t]
   ·obtain⟨hj,g,s4⟩:=w
    simp only[bi,e9 (cR _), ← N]at g
    refine⟨bB,by simp only[g,W],xR (Dl scope) ?_,by simp only[← B];exact s4.c⟩
    have h1:=(CY (y:=z) s4).l.keys
    have h2: ∀(σ:SL),(fO σ z .any).map ai=σ.map ai:=λσ=>by
     induction σ with
     |nil=>rfl
     |cons p σ ih=>
      show bS ai (bif p.1==z then(p.1,Sl.any)::σ else p::fO σ z .any)=_
      cases p.1==z with
      |true=>rfl
      |false=>show p.1::_=_;simp only[ih];rfl
    simp only[← s4.l.keys,show(rQ E z).l.map ai=E.l.map ai from h2 _,eq_of_beq hk]
  ·obtain⟨hi,o,hl,hc⟩:=w
   simp only[bi,e9 (cR _)]at o
   exact⟨by simp only[o,bi,eA];trivial,.I,_,ah,o,⟨s1.l,hc⟩,_,rfl,q⟩
 |_=>exact h.elim
end
section
variable {G:aK} {d:Nat} {Γ:Fm} {S:St}
noncomputable def K.ibs(k:K):List k.D->Option (List (Int×Bool)):=match k with
 | .D'=>some
 |_=>λz_=>none
noncomputable def V.asIBs(v:V):Option (List (Int×Bool)):=match v with
 | .l k xs=>k.ibs xs
 |_=>none
theorem V.asIBs_eq{v:V}{x:List (Int×Bool)}(h:v.asIBs=some x):v= .l .D' x:=by
 induction v with
 |l k xs=>cases k<;>cases h;rfl
 |_=>cases h
noncomputable def Ow(v:EV):Option (ag×Expr):=match v with
 | .call f [a]=>some (f,a)
 | .callN f _ [a]=>some (f,a)
 |_=>none
noncomputable def yw(e:Expr):Option (ag×Expr):=Ow (eM e)
def Cg(r:aO)(nm:NM)(σ:Sg)(a:Expr)(Q:(k:K)->List k.D->Sg->Prop):Prop:=match yw a with
 |some (f,e)=>bif f==("dict":ag)&&iP nm f&&bh e then r.e nm σ e λv ah=>a9 v.asIBs λps=>ps.length<64/\∀ms:List Int,ms.Pairwise (· < ·)->(∀k,k∈ms↔∃b,(k,b)∈ps)->Q .I ms ah else False
 |none=>r.e nm σ a λv ah=>a9 v.asL λxs=>∀ms:List Int,ms.Perm xs->(xs.length<64->ms.Pairwise (· <= ·))->Q .I ms ah
def A8(P:bK)(r:aO)(nm:NM)(σ:Sg)(f:ag)(args:List Expr)(Q:(k:K)->List k.D->Sg->Prop):Prop:=match args with
 | [a]=>bif iP nm f&&bh a then(bif f==("list":ag)then r.e nm σ a λv ah=>lz v λk xs=>Q k xs ah else bif f==("sorted":ag)then Cg r nm σ a Q else False)else False
 |_=>False
def DD(v:V)(k:Nat->Prop):Prop:=match v with
 | .i x=>(match x with
  | .ofNat m=>k m
  |_=>False)
 |_=>False
theorem Tl{v:V}{k:Nat->Prop}(h:DD v k): ∃m,v= .i (.ofNat m)/\k m:=by
 induction v with
 |i x=>
  induction x with
  |ofNat m=>exact⟨m,rfl,h⟩
  |negSucc m=>exact h.elim
 |_=>exact h.elim
def aE(b:Bool)(X Y:Prop):Prop:=Bool.rec (motive:=λz_=>Prop) Y X b
theorem cw{b:Bool}{X Y:Prop}(h1:b=true->X)(h2:b=false->Y):aE b X Y:=by
 induction b with
 |true=>exact h1 rfl
 |false=>exact h2 rfl
theorem wc{b:Bool}{X Y:Prop}(h2:b=false->Y)(h1:b=true->X):aE b X Y:=cw h1 h2
theorem aE.t{b:Bool}{X Y:Prop}(h:aE b X Y)(e:b=true):X:=by subst e;exact h
theorem aE.f{b:Bool}{X Y:Prop}(h:aE b X Y)(e:b=false):Y:=by subst e;exact h
def Nm(P:bK)(r:aO)(nm:NM)(σ:Sg)(Q:(k:K)->List k.D->Sg->Prop)(v:EV):Prop:=match v with
 | .lst es=>bif es.all bh then lW r nm σ es λvs ah=>bif Nat.ble vs.length 1000000 then lstW vs λk xs=>Q k xs ah else False else False
 | .bin l op rr=>r.e nm σ l λa ah=>r.e nm ah rr λb σ2=>Hu op a b λk xs=>Q k xs σ2
 | .comp elt tgt iter ifs scope=>bif ifs.isEmpty&&A3 scope then Cj r nm σ elt tgt iter scope Q else Ah r nm σ elt tgt iter ifs scope Q
 | .sliceF v i=>r.e nm σ v λa ah=>r.e nm ah i λb σ2=>lz a λk xs=>DD b λn=>Q k (xs.drop n) σ2
 | .sliceU v i=>r.e nm σ v λa ah=>r.e nm ah i λb σ2=>lz a λk xs=>br b λn=>0<=n/\Q k (xs.take n.toNat) σ2
 | .call f args=>A8 P r nm σ f args Q
 | .callN f _ args=>A8 P r nm σ f args Q
 | .ifx c x y=>r.t nm σ c λb ah=>aE b (r.o nm ah x Q) (r.o nm ah y Q)
 |_=>False
def oW(P:bK)(r:aO)(nm:NM)(σ:Sg)(e:Expr)(Q:(k:K)->List k.D->Sg->Prop):Prop:=Nm P r nm σ Q (eM e)
theorem Od{n:Int}(h:0<=n):n=Int.ofNat n.toNat:=by show n=((n.toNat:Nat):Int);lia
inductive Ay:Expr->Option (ag×Expr)->Prop
 |yes {f p a pos}:Ay (.Call (.Name f p) [a] [] pos) (some (f,a))
 |no {e}:Ay e none
theorem P9(e:Expr):Ay e (yw e):=by
 have hi:=md e
 unfold yw
 generalize eM e=v at hi
 induction hi with
 |callN=>exact .yes
 | @call f p args pos=>
  exact List.casesOn args .no λa as=>List.casesOn as .yes λb b=>.no
 |_=>exact .no
theorem Wb{P:bK}{D:Nat}(i:bU G P D){n:Nat}{r:aO}(hr:bQ G n r){nm:NM}{σ:Sg}{a:Expr}{p pos:ax}{Q:(k:K)->List k.D->Sg->Prop}(hd:n<=d)(hn:Γ.env.scope.names=nm)(hs:aN σ S)(hk:Γ.env.kindOf "sorted"=some .globalImplicit)(hp:bh a=true)(h:Cg r nm σ a Q):
  b5 G d Γ S (.Call (.Name "sorted" p) [a] [] pos) λl=>OP Q:=by
 unfold Cg at h
 have hi:=P9 a
 generalize yw a=o at h hi
 cases hi with
 | @yes f p2 e rL=>
  have h:bif f==("dict":ag)&&iP nm f&&bh e then r.e nm σ e λv ah=>a9 v.asIBs λps=>ps.length<64/\∀ms:List Int,ms.Pairwise (· < ·)->(∀k,k∈ms↔∃b,(k,b)∈ps)->Q .I ms ah else False:=h
  obtain⟨c,h3⟩:=cQ h
  simp only[cO,beq_iff_eq]at c
  obtain⟨⟨c1,hg⟩,g⟩:=c
  subst c1
  refine b5.sortedDict i.sorted i.dict hk (kq hn hg).1 g ((hr.e hd hn hs h3).mono λt S1 w=>?_)
  refine aj λj=>?_
  obtain⟨v,ah,e,s1,q⟩:=w
  obtain⟨ps,ev,hz,q⟩:=dS q
  refine j ?_
  rw[V.asIBs_eq ev]at e
  exact⟨ps,e,hz,λms h1 h2 l=>⟨.I,ms,ah,rfl,s1,q ms h1 h2⟩⟩
 |no=>
  have h:r.e nm σ a λv ah=>a9 v.asL λxs=>∀ms:List Int,ms.Perm xs->(xs.length<64->ms.Pairwise (· <= ·))->Q .I ms ah:=h
  refine b5.sorted i.sorted hk hp ((hr.e hd hn hs h).mono λt S1 w=>?_)
  refine aj λj=>?_
  obtain⟨v,ah,e,s1,q⟩:=w
  obtain⟨xs,ev,q⟩:=dS q
  refine j ?_
  rw[V.asL_eq ev]at e
  exact⟨xs,e,λms h1 h2 l=>⟨.I,ms,ah,rfl,s1,q ms h1 h2⟩⟩
theorem G7{P:bK}{D:Nat}(b:bU G P D){n:Nat}{r:aO}(hr:bQ G n r){nm:NM}{σ:Sg}{f:ag}{args:List Expr}{p pos:ax}{Q:(k:K)->List k.D->Sg->Prop}(hd:n<=d)(hn:Γ.env.scope.names=nm)(hs:aN σ S)(h:A8 P r nm σ f args Q):
  b5 G d Γ S (.Call (.Name f p) args [] pos) λg=>OP Q:=by
 match args,h with
 | [a],h=>
  obtain⟨c,h2⟩:=cQ h
  simp only[cO]at c
  obtain⟨hg,hp⟩:=c
  obtain⟨hk,i⟩:=kq hn hg
  cases c1:f==("list":ag)<;>simp only[c1]at h2
  ·obtain⟨c2,h2⟩:=cQ h2
   simp only[beq_iff_eq]at c2
   subst c2
   exact Wb b hr hd hn hs hk hp h2
  ·simp only[beq_iff_eq]at c1
   subst c1
   refine b5.callBuiltin b.list (.t _) hk i (by simp[hp]) (b8.cons hp ((hr.e hd hn hs h2).mono λt S1 w=>b8.nil ?_))
   refine aj λj=>?_
   obtain⟨v,ah,e,s1,q⟩:=w
   obtain⟨k,xs,rfl,q⟩:=xe q
   refine j ?_
   exact⟨xs.map k.toT,by rw[e];exact wT.list,λg=>⟨k,xs,ah,rfl,s1,q⟩⟩
 | [],h=>exact h.elim
 |_::_::_,h=>exact h.elim
theorem Rc{v:V}{k:Nat->Prop}{R:Prop}(h:DD v k)(f: ∀m,v.t= .int (.ofNat m)->k m->R):R:=by
 obtain⟨m,rfl,q⟩:=Tl h
 exact f m rfl q
theorem Rm{e2:Expr}{tgt iter:Expr}{ifs:List Expr}{scope:b9}{pos:ax}{Q:(k:K)->List k.D->Sg->Prop}(h:dX iter=true/\iw Γ.env.scope.names (S.c.map ai) scope=true/\nF G d Γ S tgt e2 iter ifs scope (OP Q)):b5 G d Γ S (.ListComp e2 [⟨tgt,iter,ifs,0⟩] scope pos) λe=>OP Q:=
 b5.comp h.1 h.2.1 (ck.mono' h.2.2 λbl S1 w=>by obtain⟨J,a,b,c,k⟩:=w;exact⟨J,a,b,c,λacc X f e=>k acc X f⟩)
def Kh(r:aO)(nm:NM)(σ:Sg)(elt tgt iter:Expr)(ifs:List Expr)(scope:b9)(Q:(k:K)->List k.D->Sg->Prop)(b:Bool):Prop:=bif b then Cj r nm σ elt tgt iter scope Q else Ah r nm σ elt tgt iter ifs scope Q
theorem Ki{P:bK}{D:Nat}(a:bU G P D){n:Nat}{r:aO}(hr:bQ G n r){nm:NM}{σ:Sg}{elt tgt iter:Expr}{ifs:List Expr}{scope:b9}{Q:(k:K)->List k.D->Sg->Prop}(hd:n<=d)(hn:Γ.env.scope.names=nm)(hs:aN σ S): ∀b,(ifs.isEmpty&&A3 scope)=b->Kh r nm σ elt tgt iter ifs scope Q b->
  dX iter=true/\iw Γ.env.scope.names (S.c.map ai) scope=true/\nF G d Γ S tgt elt iter ifs scope (OP Q)
 |false,_,h=>Rk a hr hd hn hs h
 |true,c,h=>by
  rw[Fu.mp (q9.mp c).1]
  exact Wg a hr hd hn hs h
theorem T4{P:bK}{D:Nat}(i:bU G P D){n:Nat}{r:aO}(hr:bQ G n r){nm:NM}{σ:Sg}{e:Expr}{Q:(k:K)->List k.D->Sg->Prop}(hd:n<=d)(hn:Γ.env.scope.names=nm)(hs:aN σ S)(h:oW P r nm σ e Q):b5 G d Γ S e λg=>OP Q:=by
 have hi:=md e
 unfold oW at h
 generalize eM e=v at h hi
 revert h
 induction hi with
 |lst=>exact λh=>have c:=cQ h;b5.list ((ur hr hd hn hs c.1 c.2).mono λts S1 w=>by
  refine aj λj=>?_
  obtain⟨vs,ah,e,s1,q⟩:=w
  obtain⟨hz,q⟩:=cQ q
  obtain⟨k,xs,e2,_,q⟩:=Tk q
  refine j ?_
  rw[e]
  exact⟨by simp only[bi,eA];exact aZ (mP hz) (by decide),λg=>⟨k,xs,ah,e2,s1,q⟩⟩)
 |bin=>exact λh=>b5.bin (hr.cE hd hn hs h λa ah S1 s1 h=>hr.cE hd hn s1 h λb σ2 S2 s2 h=>let⟨k,xs,hb,q⟩:=PE (G:=G) h;⟨_,hb,λg=>⟨k,xs,σ2,rfl,s2,q⟩⟩)
 |comp=>exact λh=>Rm (Ki i hr hd hn hs _ rfl h)
 |sliceF=>exact λh=>b5.sliceFrom (hr.cE hd hn hs h λa ah S1 s1 h=>hr.cE hd hn s1 h λb σ2 S2 s2 h=>ut h λk xs e h=>Rc h λm e2 q=>⟨_,m,e,e2,λg=>⟨k,_,σ2,by rw[List.map_drop],s2,q⟩⟩)
 |sliceU=>exact λh=>b5.sliceUpto (hr.cE hd hn hs h λa ah S1 s1 h=>hr.cE hd hn s1 h λb σ2 S2 s2 h=>ut h λk xs e h=>gE h λm e2 q=>⟨_,m.toNat,e,by simp only[e2, ← Od q.1],λg=>⟨k,_,σ2,by simp only[List.map_take],s2,q.2⟩⟩)
 |call=>exact λh=>G7 i hr hd hn hs h
 |callN=>exact λh=>G7 i hr hd hn hs h
 |ifx=>exact λh=>b5.ifExp (hr.cT hd hn hs h λb ah S1 s1 q=>⟨λe=>hr.o hd hn s1 (q.t e),λe=>hr.o hd hn s1 (q.f e)⟩)
 |_=>exact rg
def Ip(P:bK)(nm:NM)(σ:Sg)(x:ag)(Q:V->Sg->Prop):Prop:=bif iP nm x then(match P.glob x with
 |some v=>Q v σ
 |none=>False)else False
def GW(r:aO)(nm:NM)(σ:Sg)(es:List Expr)(Q:V->Sg->Prop):Prop:=bif es.all bh then lW r nm σ es λvs ah=>(match vs with
 | [x,y]=>Q (.t2 x y) ah
 | [x,y,z]=>Q (.t3 x y z) ah
 |_=>False)else False
def Df(P:bK)(r:aO)(nm:NM)(σ:Sg)(f x:ag)(args:List Expr)(Q:V->Sg->Prop):Prop:=bif f==("len":ag)&&iP nm f then hO nm σ x (λk xs=>Q (.i xs.length) σ) (x6 P r nm σ f args Q)else x6 P r nm σ f args Q
def HI(r:aO)(nm:NM)(σ:Sg)(x:ag)(v i:Expr)(Q:V->Sg->Prop):Prop:=hO nm σ x (λk xs=>r.s nm σ i λj=>lh (.l k xs) j λc=>Q c σ) (r.e nm σ v λb ah=>r.e nm ah i λj σ2=>lh b j λc=>Q c σ2)
noncomputable def pq{α:Type}:List α->Option (List α×α)
 | []=>none
 | [x]=>some ([],x)
 |x::y::r=>(pq (y::r)).map λp=>(x::p.1,p.2)
theorem BO{α:Type}: ∀{xs:List α} {p:List α×α},pq xs=some p->xs=p.1++[p.2]
 | [],_,h=>nomatch h
 | [x],_,h=>by cases h;rfl
 |x::y::r,p,h=>by
  obtain⟨q,hq,rfl⟩:=lX.mp h
  rw[BO hq];rfl
noncomputable def Nh(v:EV):Option ag:=match v with
 | .name x=>some x
 |_=>none
noncomputable def jM(e:Expr):Option ag:=Nh (eM e)
theorem yk{e:Expr}{x:ag}:jM e=some x->∃p,e= .Name x p:=by
 have hi:=md e
 unfold jM
 generalize eM e=v at hi ⊢
 induction hi with
 | @name y p=>intro h;exact⟨p,by rw[tJ h]⟩
 |_=>intro h;exact(L5 x (Eq.symm h)).elim
noncomputable def xM(args:List Expr):Option ag:=match args with
 | []=>none
 |e::_=>jM e
theorem VJ{args:List Expr}{x:ag}(h:xM args=some x): ∃p as,args= .Name x p::as:=by
 induction args with
 |nil=>cases h
 |cons e as=>obtain⟨p,rfl⟩:=yk (show jM e=some x from h);exact⟨p,as,rfl⟩
def WY(P:bK)(r:aO)(nm:NM)(σ:Sg)(f:ag)(args:List Expr)(Q:V->Sg->Prop):Prop:=bif iP nm f&&P.fns f&&args.tail.all bh then sG r nm σ args.tail λvs=>P.specB f vs λv=>Q v σ else False
noncomputable def G5(nm:NM)(σ:Sg)(o:Option ag):Bool:=match o with
 |some x=>wE nm σ x
 |none=>false
def AN(P:bK)(r:aO)(nm:NM)(σ:Sg)(f:ag)(args:List Expr)(Q:V->Sg->Prop):Prop:=bif G5 nm σ (xM args)then WY P r nm σ f args Q else x6 P r nm σ f args Q
theorem N1{P:bK}{D:Nat}(m:bU G P D){n:Nat}{r:aO}(hr:bQ G n r){nm:NM}{σ:Sg}{f:ag}{args:List Expr}{p pos:ax}{Q:V->Sg->Prop}(hd:n<=d)(hD:D<=d)(hn:Γ.env.scope.names=nm)(hs:aN σ S)(h:AN P r nm σ f args Q):
  Ev G d Γ S (.Call (.Name f p) args [] pos) (WP Q):=by
 unfold AN at h
 cases hb:G5 nm σ (xM args)<;>simp only[hb]at h
 ·exact AM m hr hd hD hn hs h
 ·cases i:xM args with
  |none=>rw[i]at hb;cases hb
  |some x=>
   rw[i]at hb
   refine aj λg=>?_
   obtain⟨px,as,rfl⟩:=VJ i
   obtain⟨c,h⟩:=cQ h
   simp only[cO]at c
   obtain⟨hk,s⟩:=kq hn c.1.1
   obtain⟨a,ts,R,hb0,ho,hm,hw⟩:=SO hn hs hb
   refine g ?_
   refine Ev.callB (m.fns f c.1.2) hk s c.2 ho ((yh (pos:=pos) hr hd hn hs c.2 h).mono λus S' w=>?_)
   obtain⟨vs,e,B,q⟩:=w
   subst B e
   refine⟨ts,R,hm,?_⟩
   refine aj λg=>?_
   obtain⟨a2,hg,k⟩:=m.specB f vs _ d ts q hD hb0
   refine g ?_
   refine⟨a2,hg,λH b bv ob ws h1 h2 h3 h4=>(k H b bv ob ws h1 h2 h3 h4).mono λv H' l le C=>?_⟩
   refine aj λg=>?_
   obtain⟨t,cx,u,y,rt,o,lo,z,el,j,v2,A,q2⟩:=C
   obtain⟨S2,hR,s2⟩:=hw cx j
   refine g ?_
   exact⟨t,cx,u,y,rt,o,lo,z,el,S2,hR,v2,σ,A,s2,q2⟩
def Tf(P:bK)(r:aO)(nm:NM)(σ:Sg)(Q:V->Sg->Prop)(v:EV):Prop:=match v with
 | .name x=>Hm nm σ x Q (Ip P nm σ x Q)
 | .neg x=>r.e nm σ x λa ah=>br a λi=>Q (.i (-i)) ah
 | .bin l op rr=>r.e nm σ l λa ah=>r.e nm ah rr λb σ2=>xl op a b λc=>Q c σ2
 | .cmp1 l op rr=>r.e nm σ l λa ah=>r.e nm ah rr λb σ2=>rS op a b λc=>Q (.b c) σ2
 | .ifx c x y=>r.t nm σ c λb ah=>aE b (r.e nm ah x Q) (r.e nm ah y Q)
 | .subN x v i=>HI r nm σ x v i Q
 | .sub v i=>r.e nm σ v λb ah=>r.e nm ah i λj σ2=>lh b j λc=>Q c σ2
 | .tup es=>GW r nm σ es Q
 | .callN f x args=>Df P r nm σ f x args Q
 | .call f args=>AN P r nm σ f args Q
 | .and2 x y=>r.e nm σ x λa ah=>kB a λb=>aE b (r.e nm ah y Q) (Q (.b false) ah)
 | .pop x=>hO nm σ x (λk xs=>a9 (pq xs) λp=>Q (k.toV p.2) (mw σ x k p.1)) False
 | .lit t=>Q t σ
 |_=>False
def eB(P:bK)(r:aO)(nm:NM)(σ:Sg)(e:Expr)(Q:V->Sg->Prop):Prop:=Tf P r nm σ Q (eM e)
theorem I9{n:Nat}{r:aO}(hr:bQ G n r){nm:NM}{σ:Sg}{v i:Expr}{pos:ax}{Q:V->Sg->Prop}(hd:n<=d)(hn:Γ.env.scope.names=nm)(hs:aN σ S)(hp:dM i=true)(h:r.e nm σ v λb ah=>r.e nm ah i λj σ2=>lh b j λc=>Q c σ2):Ev G d Γ S (.Subscript v i pos) (WP Q):=by
 refine Ev.index hp ((hr.e hd hn hs h).mono λt S1 w=>?_)
 obtain⟨v,ah,e,s1,f⟩:=w
 refine(hr.e hd hn s1 f).mono λt2 S2 w=>?_
 refine aj λk=>?_
 obtain⟨v2,σ2,e2,s2,a⟩:=w
 obtain⟨j,c,g,hb,q⟩:=xi a
 refine k ?_
 exact⟨j,c.t,by rw[e2,g],(e).symm▸hb,c,σ2,rfl,s2,q⟩
theorem T9{P:bK}{D:Nat}(b:bU G P D){nm:NM}{σ:Sg}{x:ag}{p:ax}{Q:V->Sg->Prop}(hn:Γ.env.scope.names=nm)(hs:aN σ S)(h:Ip P nm σ x Q):Ev G d Γ S (.Name x p) (WP Q):=by
 obtain⟨c,h⟩:=cQ h
 cases q:P.glob x with
 |none=>rw[q]at h;exact h.elim
 |some v=>
  rw[q]at h
  obtain⟨w,a,e⟩:=b.glob _ _ q
  exact Ev.gname a e (kq hn c).1 (kq hn c).2 ⟨v,σ,rfl,hs,h⟩
theorem R0{n:Nat}{r:aO}(hr:bQ G n r){nm:NM}{σ:Sg}{x:ag}{p pos:ax}{i:Expr}{Q:V->Sg->Prop}(hd:n<=d)(hn:Γ.env.scope.names=nm)(hs:aN σ S)(hp:dM i=true)(h:HI r nm σ x (.Name x p) i Q):Ev G d Γ S (.Subscript (.Name x p) i pos) (WP Q):=
 mh hn hs h (λh=>I9 hr hd hn hs hp h) λk xs ho h=>by
  obtain⟨a,R,ho,_,_⟩:=ho
  refine Ev.indexOwn hp ho (hr.cS hd hn hs h λj h=>?_)
  obtain⟨j,c,f,hb,q⟩:=xi h
  refine⟨j,c.t,_,f,ho,?_,c,σ,rfl,hs,q⟩
  rcases hb with⟨ts,b,e⟩|⟨ts,b,_⟩
  ·cases b;exact e
  ·cases b
theorem VQ{n:Nat}{r:aO}(hr:bQ G n r){nm:NM}{σ:Sg}{es:List Expr}{k:Nat}{pos:ax}{Q:V->Sg->Prop}(hd:n<=d)(hn:Γ.env.scope.names=nm)(hs:aN σ S)(h:GW r nm σ es Q):Ev G d Γ S (.Tuple es k pos) (WP Q):=by
 obtain⟨c,h⟩:=cQ h
 refine Ev.tuple ((ur hr hd hn hs c h).mono λts S1 w=>?_)
 obtain⟨vs,ah,e,s1,q⟩:=w
 rw[e]
 match vs,q with
 | [x,y],q=>exact⟨by simp only[eA];show 2<=16777216;decide,.t2 x y,ah,rfl,s1,q⟩
 | [x,y,z],q=>exact⟨by simp only[eA];show 3<=16777216;decide,.t3 x y z,ah,rfl,s1,q⟩
 | [],q=>exact q.elim
 | [_],q=>exact q.elim
 |_::_::_::_::_,q=>exact q.elim
theorem NR{P:bK}{D:Nat}(b:bU G P D){n:Nat}{r:aO}(hr:bQ G n r){nm:NM}{σ:Sg}{f x:ag}{p p2 pos:ax}{Q:V->Sg->Prop}(hd:n<=d)(hD:D<=d)(hn:Γ.env.scope.names=nm)(hs:aN σ S)(h:Df P r nm σ f x [.Name x p2] Q):Ev G d Γ S (.Call (.Name f p) [.Name x p2] [] pos) (WP Q):=by
 unfold Df at h
 cases c:(f==("len":ag)&&iP nm f)<;>simp only[c]at h
 ·exact AM b hr hd hD hn hs h
 ·simp only[cO,beq_iff_eq]at c
  obtain⟨rfl,hg⟩:=c
  refine mh hn hs (show hO nm σ x _ _ from h) (λh=>AM b hr hd hD hn hs h) (λk xs ho h=>?_)
  obtain⟨a,R,ho,_,_⟩:=ho
  exact Ev.lenOwn b.len (kq hn hg).1 ho ⟨.i xs.length,σ,by rw[bi];rfl,hs,h⟩
theorem U5{nm:NM}{σ:Sg}{x:ag}{p apos cN:ax}{Q:V->Sg->Prop}(hl:(apos.endLine==cN.line)=true)(hn:Γ.env.scope.names=nm)(hs:aN σ S)(h:hO nm σ x (λk xs=>a9 (pq xs) λp=>Q (k.toV p.2) (mw σ x k p.1)) False):Ev G d Γ S (.Call (.Attribute (.Name x p) "pop" apos) [] [] cN) (WP Q):=
 mh hn hs h (λz=>z.elim) λk xs ho q=>by
  refine aj λb=>?_
  obtain⟨a,R,ho,hm,hw⟩:=ho
  obtain⟨p,ep,q2⟩:=dS q
  simp only[BO ep,jX,List.map_singleton]at ho hm
  obtain⟨S1,hR,s1⟩:=hw k p.1
  refine b ?_
  exact Ev.pop hl ho hm hR ⟨k.toV p.2,_,(K.vt _ _).symm,s1,q2⟩
theorem GB{P:bK}{D:Nat}(g:bU G P D){n:Nat}{r:aO}(hr:bQ G n r){nm:NM}{σ:Sg}{e:Expr}{Q:V->Sg->Prop}(hd:n<=d)(hD:D<=d)(hn:Γ.env.scope.names=nm)(hs:aN σ S)(h:eB P r nm σ e Q):Ev G d Γ S e (WP Q):=by
 have hi:=md e
 unfold eB at h
 generalize eM e=v at h hi
 revert h
 induction hi with
 |name=>exact λh=>RU hn hs h λh=>T9 g hn hs h
 |neg=>exact λh=>Ev.neg (hr.cE hd hn hs h λv ah S1 s1 h=>gE h λx e q=>⟨x,e,.i (-x),ah,rfl,s1,q⟩)
 |bin=>exact λh=>Ev.bin (hr.cE hd hn hs h λa ah S1 s1 h=>hr.cE hd hn s1 h λb σ2 S2 s2 h=>let⟨c,hb,q⟩:=Hv (G:=G) h;⟨c.t,hb,c,σ2,rfl,s2,q⟩)
 |cmp1 hm=>exact λh=>Ev.cmp hm (hr.cE hd hn hs h λa ah S1 s1 h=>hr.cE hd hn s1 h λb σ2 S2 s2 h=>let⟨c,hb,q⟩:=Ba (G:=G) h;⟨c,hb,.b c,σ2,rfl,s2,q⟩)
 |ifx=>exact λh=>Ev.ifExp (hr.cT hd hn hs h λb ah S1 s1 q=>⟨λe=>hr.e hd hn s1 (q.t e),λe=>hr.e hd hn s1 (q.f e)⟩)
 |subN hp=>exact λh=>R0 hr hd hn hs hp h
 |sub hp=>exact λh=>I9 hr hd hn hs hp h
 |tup=>exact λh=>VQ hr hd hn hs h
 |callN=>exact λh=>NR g hr hd hD hn hs h
 |call=>exact λh=>N1 g hr hd hD hn hs h
 |and2=>exact λh=>Ev.and2 (hr.cE hd hn hs h λv ah S1 s1 h=>Oo h λb e q=>⟨b,e,λj=>⟨.b false,ah,rfl,s1,q.f j⟩,λj=>hr.e hd hn s1 (q.t j)⟩)
 |pop hl=>exact λh=>U5 hl hn hs h
 |int=>exact λh=>Ev.int ⟨_,σ,rfl,hs,h⟩
 |str=>exact λh=>Ev.str ⟨_,σ,rfl,hs,h⟩
 |none=>exact λh=>Ev.noneC ⟨_,σ,rfl,hs,h⟩
 |bool=>exact λh=>Ev.boolC ⟨_,σ,rfl,hs,h⟩
 |_=>exact rg
def eW(P:bK)(r:aO)(nm:NM)(σ:Sg)(e:Expr)(Q:V->Sg->Prop):Prop:=bif xT e then r.o nm σ e λk xs ah=>Q (.l k xs) ah else eB P r nm σ e Q
theorem Vg{P:bK}{D:Nat}(b:bU G P D){n:Nat}{r:aO}(hr:bQ G n r){nm:NM}{σ:Sg}{e:Expr}{Q:V->Sg->Prop}(hd:n<=d)(hD:D<=d)(hn:Γ.env.scope.names=nm)(hs:aN σ S)(h:eW P r nm σ e Q):Ev G d Γ S e (WP Q):=by
 unfold eW at h
 cases ho:xT e<;>rw[ho]at h
 ·exact GB b hr hd hD hn hs h
 ·have h:r.o nm σ e λk xs ah=>Q (.l k xs) ah:=h
  refine Ev.of_own ((hr.o hd hn hs h).mono λa ts S1 w=>?_)
  obtain⟨k,xs,ah,e,s1,q⟩:=w
  exact⟨.l k xs,ah,by rw[e];rfl,s1,q⟩
def mj(r:aO)(nm:NM)(σ:Sg)(l:Expr)(op:gu)(rr:Expr)(Q:Bool->Sg->Prop):Prop:=r.e nm σ l λa ah=>r.e nm ah rr λb σ2=>rS op a b λc=>Q c σ2
noncomputable def WR(v:EV):Bool:=match v with
 | .lst es=>es.isEmpty
 |_=>false
noncomputable def tc(e:Expr):Bool:=WR (eM e)
def JW(r:aO)(nm:NM)(σ:Sg)(l:Expr)(op:gu)(rr:Expr)(Q:Bool->Sg->Prop):Prop:=match op with
 | .NotIn=>(match jM rr with
  |some m=>w9 σ m λks=>r.s nm σ l λv=>a9 v.asR λp=>Q (!ks.contains p) σ
  |none=>False)
 | .NotEq=>(match jM l with
  |some x=>bif tc rr then hO nm σ x (λk xs=>Q (!xs.isEmpty) σ) (mj r nm σ l .NotEq rr Q)else mj r nm σ l .NotEq rr Q
  |none=>mj r nm σ l .NotEq rr Q)
 |op=>mj r nm σ l op rr Q
theorem TO{e:Expr}:tc e=true->∃p,e= .List [] p:=by
 have hi:=md e
 unfold tc
 generalize eM e=v at hi ⊢
 induction hi with
 | @lst es p=>intro h;exact⟨p,by rw[Fu.mp h]⟩
 |_=>intro h;exact(rz h).elim
theorem wH{n:Nat}{r:aO}(hr:bQ G n r){nm:NM}{σ:Sg}{l rr:Expr}{op:gu}{pos:ax}{Q:Bool->Sg->Prop}(hm:on op rr=false)(hd:n<=d)(hn:Γ.env.scope.names=nm)(hs:aN σ S)(h:mj r nm σ l op rr Q):Tr G d Γ S (.Compare l [op] [rr] pos) (TP Q):=by
 refine Tr.cmp hm ((hr.e hd hn hs h).mono λt S1 w=>?_)
 obtain⟨v,ah,e,s1,b⟩:=w
 refine(hr.e hd hn s1 b).mono λt2 S2 w=>?_
 obtain⟨v2,σ2,e2,s2,a⟩:=w
 obtain⟨c,hb,q⟩:=Ba (G:=G) a
 exact⟨c,by simp only[e,e2];exact hb,σ2,s2,q⟩
theorem Wa{n:Nat}{r:aO}(hr:bQ G n r){nm:NM}{σ:Sg}{l rr:Expr}{op:gu}{pos:ax}{Q:Bool->Sg->Prop}(hm:on op rr=false)(hd:n<=d)(hn:Γ.env.scope.names=nm)(hs:aN σ S)(h:JW r nm σ l op rr Q):Tr G d Γ S (.Compare l [op] [rr] pos) (TP Q):=by
 induction op with
 |NotIn=>
  have h:(match jM rr with
   |some m=>w9 σ m λks=>r.s nm σ l λv=>a9 v.asR λp=>Q (!ks.contains p) σ
   |none=>False):=h
  cases e:jM rr with
  |none=>rw[e]at h;exact h.elim
  |some m=>
   rw[e]at h
   refine aj λb=>?_
   obtain⟨p,rfl⟩:=yk e
   obtain⟨ks,a,h,f, -⟩:=GX hs h
   refine b ?_
   refine Tr.notInD f ((hr.s hd hn hs h).mono λt S1 w=>?_)
   refine aj λb=>?_
   obtain⟨v,e,c,q⟩:=w
   obtain⟨x,ev,q⟩:=dS q
   refine b ?_
   rw[V.asR_eq ev]at e
   exact⟨c,x,e,σ,hs,q⟩
 |NotEq=>
  have h:(match jM l with
   |some x=>bif tc rr then hO nm σ x (λk xs=>Q (!xs.isEmpty) σ) (mj r nm σ l .NotEq rr Q)else mj r nm σ l .NotEq rr Q
   |none=>mj r nm σ l .NotEq rr Q):=h
  cases e:jM l with
  |none=>rw[e]at h;exact wH hr hm hd hn hs h
  |some x=>
   rw[e]at h
   obtain⟨p,rfl⟩:=yk e
   have h:bif tc rr then hO nm σ x (λk xs=>Q (!xs.isEmpty) σ) (mj r nm σ (.Name x p) .NotEq rr Q)else mj r nm σ (.Name x p) .NotEq rr Q:=h
   cases e2:tc rr<;>simp only[e2]at h
   ·exact wH hr hm hd hn hs h
   ·obtain⟨lp,rfl⟩:=TO e2
    refine mh hn hs (show hO nm σ x _ _ from h) (λh=>wH hr hm hd hn hs h) (λk xs ho h=>?_)
    obtain⟨a,R,ho,_,_⟩:=ho
    exact Tr.neOwnE ho ⟨σ,hs,(show(xs.map k.toT).isEmpty=xs.isEmpty by cases xs<;>rfl).symm▸h⟩
 |_=>exact wH hr hm hd hn hs h
noncomputable def BV(args:List Expr):Option Expr:=match args with
 | [e,s]=>(match jM s with
  |some x=>bif x==("str":ag)then some e else none
  |none=>none)
 |_=>none
theorem Wu{args:List Expr}{e:Expr}(h:BV args=some e): ∃p,args=[e,.Name "str" p]:=by
 match args,h with
 | [a,s],h=>
  have h:(match jM s with |some x=>bif x==("str":ag)then some a else none|none=>none)=some e:=h
  cases e1:jM s with
  |none=>rw[e1]at h;cases h
  |some x=>
   obtain⟨p,es⟩:=yk e1
   rw[e1]at h
   have h2:(bif x==("str":ag)then some a else none)=some e:=h
   cases c:x==("str":ag)<;>rw[c]at h2
   ·cases h2
   ·simp only[beq_iff_eq]at c
    cases h2
    exact⟨p,by rw[es,c]⟩
noncomputable def Gz(v:V):Bool:=match v with
 | .t2 _ _=>true
 |_=>false
def xb(r:aO)(nm:NM)(σ:Sg)(args:List Expr)(Q:Bool->Sg->Prop):Prop:=match BV args with
 |some e=>bif iP nm "isinstance"&&iP nm "str"&&bh e then r.e nm σ e λv ah=>Gz v=true/\Q false ah else False
 |none=>False
def WK(P:bK)(r:aO)(nm:NM)(σ:Sg)(e:Expr)(Q:Bool->Sg->Prop)(v:EV):Prop:=match v with
 | .cmp1 l op rr=>JW r nm σ l op rr Q
 | .name _=>eB P r nm σ e λv ah=>kB v λb=>Q b ah
 | .callN _ _ _=>eB P r nm σ e λv ah=>kB v λb=>Q b ah
 | .call f args=>bif f==("isinstance":ag)then xb r nm σ args Q else eB P r nm σ e λv ah=>kB v λb=>Q b ah
 | .cmp2 l op m hY rr=>r.e nm σ l λa ah=>r.e nm ah m λb σ2=>rS op a b λc=>aE c (r.e nm σ2 rr λu g=>rS hY b u λd=>Q d g) (Q false σ2)
 | .and2 x y=>r.t nm σ x λb ah=>aE b (r.t nm ah y Q) (Q false ah)
 | .or2 x y=>r.t nm σ x λb ah=>aE b (Q true ah) (r.t nm ah y Q)
 | .not x=>r.t nm σ x λb ah=>Q (!b) ah
 |_=>False
def tW(P:bK)(r:aO)(nm:NM)(σ:Sg)(e:Expr)(Q:Bool->Sg->Prop):Prop:=WK P r nm σ e Q (eM e)
theorem tv{t:T}{S1:St}{Q:Bool->Sg->Prop}(w:WP (λv ah=>kB v λb=>Q b ah) t S1): ∃b,t= .bool b/\TP Q b S1:=by
 refine aj λa=>?_
 obtain⟨v,ah,e,s1,q⟩:=w
 obtain⟨b,rfl,q⟩:=Dh q
 refine a ?_
 exact⟨b,e,ah,s1,q⟩
theorem VT{P:bK}{D:Nat}(f:bU G P D){n:Nat}{r:aO}(hr:bQ G n r){nm:NM}{σ:Sg}{args:List Expr}{p pos:ax}{Q:Bool->Sg->Prop}(hd:n<=d)(hn:Γ.env.scope.names=nm)(hs:aN σ S)(h:xb r nm σ args Q):Ev G d Γ S (.Call (.Name "isinstance" p) args [] pos) (WP λv ah=>kB v λb=>Q b ah):=by
 unfold xb at h
 cases e1:BV args with
 |none=>rw[e1]at h;exact h.elim
 |some e=>
  rw[e1]at h
  obtain⟨ps,rfl⟩:=Wu e1
  obtain⟨c,h2⟩:=cQ h
  simp only[cO]at c
  refine Ev.isStr f.isin f.str (kq hn c.1.1).1 (kq hn c.1.2).1 c.2 ((hr.e hd hn hs h2).mono λt S1 w=>?_)
  refine aj λg=>?_
  obtain⟨v,ah,e,s1,h3,q⟩:=w
  refine g ?_
  induction v with
  |t2 a b=>exact⟨_,e,.b false,ah,rfl,s1,q⟩
  |_=>cases h3
theorem DG{P:bK}{D:Nat}(a:bU G P D){n:Nat}{r:aO}(hr:bQ G n r){nm:NM}{σ:Sg}{e:Expr}{Q:Bool->Sg->Prop}(hp:KB e=true)(hd:n<=d)(hD:D<=d)(hn:Γ.env.scope.names=nm)(hs:aN σ S)(h:eB P r nm σ e λv ah=>kB v λb=>Q b ah):Tr G d Γ S e (TP Q):=Tr.val hp ((GB a hr hd hD hn hs h).mono λt S1 w=>tv w)
theorem Jx{op:gu}{a b:V}{Q:Bool->Prop}{R:Prop}(h:rS op a b Q)(f: ∀c,cK G op a.t b.t c->Q c->R):R:=by
 obtain⟨c,hb,q⟩:=Ba (G:=G) h
 exact f c hb q
theorem Sv{P:bK}{D:Nat}(a:bU G P D){n:Nat}{r:aO}(hr:bQ G n r){nm:NM}{σ:Sg}{e:Expr}{Q:Bool->Sg->Prop}(hd:n<=d)(hD:D<=d)(hn:Γ.env.scope.names=nm)(hs:aN σ S)(h:tW P r nm σ e Q):Tr G d Γ S e (TP Q):=by
 have hi:=md e
 unfold tW at h
 generalize eM e=v at h hi
 revert h
 induction hi with
 |cmp1 hm=>intro h;exact Wa hr hm hd hn hs h
 |name=>intro h;exact DG (Q:=Q) a hr rfl hd hD hn hs h
 |callN=>intro h;exact DG (Q:=Q) a hr rfl hd hD hn hs h
 | @call f p args pos=>
  intro h
  exact Bool.rec (motive:=λb=>(bif b then xb r nm σ args Q else eB P r nm σ (.Call (.Name f p) args [] pos) λv ah=>kB v λb=>Q b ah)->(f==("isinstance":ag))=b->Tr G d Γ S (.Call (.Name f p) args [] pos) (TP Q))
   (λh z_=>DG a hr rfl hd hD hn hs h) (λh c=>Tr.val rfl (by simp only[beq_iff_eq]at c;subst c;exact(VT a hr hd hn hs h).mono λt S1 w=>tv w)) (f==("isinstance":ag)) h rfl
 |cmp2 hm=>intro h;exact Tr.cmp2 hm (hr.cE hd hn hs h λv ah S1 s1 h=>hr.cE hd hn s1 h λv2 σ2 S2 s2 h=>Jx (G:=G) h λc hc q=>⟨c,hc,λg=>⟨σ2,s2,q.f g⟩,λg=>hr.cE hd hn s2 (q.t g) λv3 i S3 s3 h=>Jx (G:=G) h λc hc q=>⟨c,hc,i,s3,q⟩⟩)
 |and2=>intro h;exact Tr.and2 (hr.cT hd hn hs h λb ah S1 s1 q=>⟨λe=>⟨ah,s1,q.f e⟩,λe=>hr.t hd hn s1 (q.t e)⟩)
 |or2=>intro h;exact Tr.or2 (hr.cT hd hn hs h λb ah S1 s1 q=>⟨λe=>⟨ah,s1,q.t e⟩,λe=>hr.t hd hn s1 (q.f e)⟩)
 |not=>intro h;exact Tr.not (hr.cT hd hn hs h λb ah S1 s1 q=>⟨ah,s1,q⟩)
 |_=>intro h;exact rg h
noncomputable def Uj(P:bK)(r:aO):aO:=⟨sW P r,eW P r,oW P r,tW P r⟩
noncomputable def Vu:aO:=⟨λa a a a=>False,λa a a a=>False,λa a a a=>False,λa a a a=>False⟩
noncomputable def lw(P:bK):Nat->aO
 |0=>Vu
 |n+1=>Uj P (lw P n)
theorem o9{P:bK}{D:Nat}(b:bU G P D): ∀n,bQ G D (lw P n)
 |0=>⟨λa a a h=>h.elim,λa a a h=>h.elim,λa a a h=>h.elim,λa a a h=>h.elim⟩
 |n+1=>⟨λhd hn hs h=>QO b (o9 b n) hd hd hn hs h,λhd hn hs h=>Vg b (o9 b n) hd hd hn hs h,λhd hn hs h=>T4 b (o9 b n) hd hn hs h,λhd hn hs h=>Sv b (o9 b n) hd hd hn hs h⟩
end
section
variable {G:aK} {d:Nat} {Γ:Fm} {S:St}
theorem Ex.exprS{e:Expr}{pos:ax}{Q:cC->St->Prop}(hn:gB e=true)(h:Ev G d Γ S e λt S1=>t= .none/\Q .next S1):Ex G d Γ S (.Expr e pos) Q:=by
 intro H led hs
 refine ae.exprStmt hs.wf.kind hn ((h H led hs).mono λv H' l le b=>?_)
 obtain⟨t,S1,rt,s1,a,q⟩:=b
 subst a
 exact⟨rt,.next,S1,rfl,s1,q⟩
theorem Ex.assignG{x:ag}{p pos:ax}{e:Expr}{Q:cC->St->Prop}(hn:we e (some (.Name x p)) pos.line Γ.env=aH false)(h:gi G d Γ S e λr S1=>∃S2,ee Γ S1 x r S2/\Q .next S2):Ex G d Γ S (.Assign [.Name x p] e pos) Q:=by
 intro H led hs
 rw[exec_Assign_Name _ _ _ _ _ hn]
 refine ae.bind (ae.standAt (ae.bind ((h H led hs).mono λv H' l le a=>?_)))
 obtain⟨r,S1,l1,l2,el,rr,s1,S2,hp,q⟩:=a
 subst el
 refine ae.bind (ae.standAt (ae.bind (ae.bindName ((ae.store s1 hp rr).mono λz_ H2 l aV a=>?_))))
 obtain⟨e,s2⟩:=a
 subst e
 exact ae.pure ⟨.next,S2,rfl,s2,q⟩
theorem Ex.withWf{st:aW}{Q:cC->St->Prop}(h:Γ.Wf->Ex G d Γ S st Q):Ex G d Γ S st Q:=λH led hs=>h hs.wf H led hs
theorem Gh(h:Γ.Wf):Γ.env.blockKind= .function:=by unfold Env.blockKind;rw[h.kind];rfl
noncomputable def wM(nm:NM)(x:ag)(p:ax)(scope:b9)(gl:ax):Bool:=dz (nm.lookup x) .local&&p.line==gl.line&& !(scope.names.any λ(n,k)=>n==x&&(k== .local ||k== .cell))
theorem yt{nm:NM}(hn:Γ.env.scope.names=nm)(hw:Γ.Wf){x:ag}{p:ax}{elt:Expr}{gens:List pU}{scope:b9}{gl:ax}{line:Nat}:we (.ListComp elt gens scope gl) (some (.Name x p)) line Γ.env=aH (wM nm x p scope gl):=by
 show aH (Γ.env.blockKind== .function&&Γ.env.kindOf x==some .local&&p.line==gl.line&& !(scope.names.any λ(n,k)=>n==x&&(k== .local ||k== .cell)))=_
 unfold wM
 rw[Ik,Gh hw,show Γ.env.kindOf x=nm.lookup x from by unfold zt;rw[hn]]
 rfl
noncomputable def C7(vs:List Expr):Bool:=vs.any λ| .Starred .. =>true|_=>false
noncomputable def mC(nm:NM)(ts:List Expr):List ag:=ts.filterMap λ
 | .Name id pos=>if nm.lookup id==some .local&&pos.line==(ts.head?.map (·.pos.line)).getD 0 then some id else none
 |_=>none
noncomputable def sT(nm:NM)(ts vs:List Expr):Option (Option (List ag)):=
 bif !(ts.length==2 ||ts.length==3)||vs.length !=ts.length then some none
 else bif C7 vs then some none
 else bif (mC nm ts).length !=ts.length ||(mC nm ts).eraseDups.length !=(mC nm ts).length then some none
 else bif vs.all (Mx 8)then some none
 else bif vs.all (My 8)then none else some (some (mC nm ts))
theorem AR{nm:NM}(hn:Γ.env.scope.names=nm)(hw:Γ.Wf){ts vs:List Expr}{k k':Nat}{p p':ax}{res:Option (List ag)}(h:sT nm ts vs=some res):wg [.Tuple ts k p] (.Tuple vs k' p') Γ.env=aH res:=by
 subst hn
 have e:wg [.Tuple ts k p] (.Tuple vs k' p') Γ.env=(if(!(ts.length==2 ||ts.length==3)||vs.length !=ts.length ||Γ.env.blockKind != .function)=true then aH none else if C7 vs=true then aH none
   else if((mC Γ.env.scope.names ts).length !=ts.length ||(mC Γ.env.scope.names ts).eraseDups.length !=(mC Γ.env.scope.names ts).length)=true then aH none
   else if vs.all (Mx 8)=true then aH none
   else if vs.all (My 8)=true then(do unsupported "assign.tuple-of-constant-expressions:order-of-the-stores";aH (some (mC Γ.env.scope.names ts)))else aH (some (mC Γ.env.scope.names ts))):=rfl
 rw[e,Gh hw]
 clear e
 unfold sT at h
 have hb:(ScopeKind.function !=ScopeKind.function)=false:=rfl
 rw[hb,Bool.or_false]
 generalize mC Γ.env.scope.names ts=N at h ⊢
 cases h1:(!(ts.length==2 ||ts.length==3)||vs.length !=ts.length)<;>rw[h1]at h
 ·simp only[cond_false]at h
  rw[if_neg (by decide)]
  cases h2:C7 vs<;>rw[h2]at h
  ·simp only[cond_false]at h
   rw[if_neg (by decide)]
   cases h3:(N.length !=ts.length ||N.eraseDups.length !=N.length)<;>rw[h3]at h
   ·simp only[cond_false]at h
    rw[if_neg (by decide)]
    cases h4:vs.all (Mx 8)<;>rw[h4]at h
    ·simp only[cond_false]at h
     rw[if_neg (by decide)]
     cases h5:vs.all (My 8)<;>rw[h5]at h
     ·cases h;rfl
     ·cases h
    ·cases h;rfl
   ·cases h;rfl
  ·cases h;rfl
 ·cases h;rfl
set_option genCtorIdx false in
inductive aC where
 |next
 |ret (v:V)
noncomputable def aC.o:aC->cC
 | .next=>.next
 | .ret v=>.ret v.t
inductive XP(Q:aC->Sg->Prop)(o:cC)(S:St):Prop
 |mk (ov:aC) (σ:Sg) (e:o=ov.o) (s:aN σ S) (q:Q ov σ)
noncomputable def dV(v:EV):Bool:=match v with
 | .dict0=>true
 |_=>false
noncomputable def wA(e:Expr):Bool:=dV (eM e)
theorem M8{e:Expr}:wA e=true->∃p,e= .Dict [] [] p:=by
 have hi:=md e
 unfold wA
 generalize eM e=v at hi ⊢
 induction hi with
 | @dict0 p=>exact λz_=>⟨p,rfl⟩
 |_=>exact λh=>(rz h).elim
def rW(r:aO)(nm:NM)(own:Bool)(σ:Sg)(e:Expr)(Q:fw->Sg->Prop):Prop:=bif wA e then Q (.dc []) σ else bif xT e&&own then r.o nm σ e λk xs ah=>Q (.ow k xs) ah else r.e nm σ e λv ah=>Q (.fr v) ah
inductive UT(Q:fw->Sg->Prop)(r:R)(S:St):Prop
 |mk (v:fw) (σ:Sg) (m:RM v r) (s:aN σ S) (q:Q v σ)
theorem gi.mono{e:Expr}{Q Q':R->St->Prop}(h:gi G d Γ S e Q)(hq: ∀r S',Q r S'->Q' r S'):gi G d Γ S e Q':=
 λH led hs=>(h H led hs).mono λv H' l le x=>by obtain⟨r,S',l1,l2,e,rr,s,q⟩:=x;exact⟨r,S',l1,l2,e,rr,s,hq _ _ q⟩
theorem FU{n:Nat}{r:aO}(hr:bQ G n r){nm:NM}{σ:Sg}{own:Bool}{e:Expr}{Q:fw->Sg->Prop}(hd:n<=d)(hn:Γ.env.scope.names=nm)(hs:aN σ S)(h:rW r nm own σ e Q):gi G d Γ S e (UT Q):=by
 unfold rW at h
 cases hD:wA e<;>rw[hD]at h
 case true=>
  obtain⟨p,rfl⟩:=M8 hD
  exact gi.dict0 λa=>⟨.dc [],σ,.dc,hs,h⟩
 cases ho:(xT e&&own)<;>rw[ho]at h
 ·have h:r.e nm σ e λv ah=>Q (.fr v) ah:=h
  refine gi.fr ((hr.e hd hn hs h).mono λt S1 w=>?_)
  obtain⟨v,ah,e,s1,q⟩:=w
  exact⟨.fr v,ah,.fr e,s1,q⟩
 ·have h:r.o nm σ e λk xs ah=>Q (.ow k xs) ah:=h
  refine gi.ow ((hr.o hd hn hs h).mono λa ts S1 w=>?_)
  obtain⟨k,xs,ah,e,s1,q⟩:=w
  exact⟨.ow k xs,ah,.ow e,s1,q⟩
def mW(r:aO)(nm:NM):Sg->List Bool->List Expr->(List fw->Sg->Prop)->Prop
 |σ,_,[],Q=>Q [] σ
 |σ,os,x::rest,Q=>bif bh x then rW r nm (os.headD false) σ x λv ah=>mW r nm ah os.tail rest λvs σ2=>Q (v::vs) σ2 else False
inductive jq:List fw->List R->Prop
 |nil:jq [] []
 |cons {v r vs rs}:RM v r->jq vs rs->jq (v::vs) (r::rs)
inductive MP(Q:List fw->Sg->Prop)(rs:List R)(S:St):Prop
 |mk (vs:List fw) (σ:Sg) (m:jq vs rs) (s:aN σ S) (q:Q vs σ)
theorem jD.mono{pos:ax}{es:List Expr}{Q Q':List R->St->Prop}(h:jD G d Γ S pos es Q)(hq: ∀r S',Q r S'->Q' r S'):jD G d Γ S pos es Q':=
 λH led hs=>(h H led hs).mono λv H' l le x=>by obtain⟨r,S',l1,l2,e,rr,s,q⟩:=x;exact⟨r,S',l1,l2,e,rr,s,hq _ _ q⟩
theorem z8{n:Nat}{r:aO}(hr:bQ G n r){nm:NM}{pos:ax}(hd:n<=d)(hn:Γ.env.scope.names=nm): ∀{es:List Expr} {os:List Bool} {σ:Sg} {S:St} {Q:List fw->Sg->Prop},aN σ S->mW r nm σ os es Q->jD G d Γ S pos es (MP Q)
 | [],os,σ,S,Q,hs,h=>jD.nil ⟨[],σ,.nil,hs,h⟩
 |x::rest,os,σ,S,Q,hs,h=>by
  obtain⟨c,h⟩:=cQ h
  refine jD.cons c ((FU hr hd hn hs h).mono λrr S1 w=>?_)
  obtain⟨v,ah,m,s1,q⟩:=w
  refine(z8 hr hd hn s1 q).mono λrs S2 w=>?_
  obtain⟨vs,σ2,a,s2,q2⟩:=w
  exact⟨v::vs,σ2,.cons m a,s2,q2⟩
theorem jq.len{vs:List fw}{rs:List R}(h:jq vs rs):vs.length=rs.length:=by
 induction h with
 |nil=>rfl
 |cons _ _ a=>simp[a]
theorem jq.app{vs bA:List fw}{rs cG:List R}(h:jq vs rs)(h':jq bA cG):jq (vs++bA) (rs++cG):=by
 induction h with
 |nil=>exact h'
 |cons m _ a=>exact .cons m a
theorem jq.rev{vs:List fw}{rs:List R}(h:jq vs rs):jq vs.reverse rs.reverse:=by
 induction h with
 |nil=>exact .nil
 |cons m _ a=>simp only[List.reverse_cons,List.reverse_cons];exact a.app (.cons m .nil)
def vd(nm:NM):Sg->List ag->List fw->(Sg->Prop)->Prop
 |σ,[],[],Q=>Q σ
 |σ,x::xs,v::vs,Q=>jR nm σ x v λah=>vd nm ah xs vs Q
 |_,_,_,_=>False
inductive OQ(Γ:Fm)(S:St)(xs:List ag)(rs:List R)(Q:Sg->Prop):Prop
 |mk (S':St) (σ':Sg) (p:gg Γ xs rs S S') (s:aN σ' S') (q:Q σ')
theorem AA{nm:NM}(hn:Γ.env.scope.names=nm): ∀{xs:List ag} {vs:List fw} {rs:List R} {σ:Sg} {S:St} {Q:Sg->Prop},jq vs rs->aN σ S->vd nm σ xs vs Q->OQ Γ S xs rs Q
 | [],[],_,σ,S,Q,.nil,hs,h=>⟨S,σ,.nil,hs,h⟩
 | [],_::_,_,_,_,_,_,_,h=>h.elim
 |_::_,[],_,_,_,_,_,_,h=>h.elim
 |x::xs,v::vs,_,σ,S,Q,.cons m ms,hs,h=>by
  obtain⟨S1,ah,hp,s1,h⟩:=xW hn hs m (show jR nm σ x v (λah=>vd nm ah xs vs Q)from h)
  obtain⟨S2,σ2,a,s2,q⟩:=AA hn ms s1 h
  exact⟨S2,σ2,.cons hp a,s2,q⟩
def Cs(op:eJ)(a b:V)(Q:V->Prop):Prop:=match op with
 | .Add=>br a λx=>br b λy=>Q (.i (x+y))
 | .Sub=>br a λx=>br b λy=>Q (.i (x-y))
 |_=>False
inductive M9(G:aK)(op:eJ)(a b:V)(Q:V->Prop):Prop
 |mk (c:V) (h:nO G op a.t b.t c.t) (q:Q c)
theorem HN{op:eJ}{a b:V}{Q:V->Prop}(h:Cs op a b Q):M9 G op a b Q:=by
 induction op with
 |Add=>obtain⟨x,rfl,h⟩:=fy h;obtain⟨y,rfl,h⟩:=fy h;exact⟨.i _,nO.add,h⟩
 |Sub=>obtain⟨x,rfl,h⟩:=fy h;obtain⟨y,rfl,h⟩:=fy h;exact⟨.i _,nO.sub,h⟩
 |_=>exact h.elim
def AU(k:K)(xs:List k.D)(v:V)(Q:(k':K)->List k'.D->Prop):Prop:=Fj (motive:=λz_=>Prop) (bif xs.isEmpty then a9 (v.kind.of v) λy=>Q v.kind [y]else False) (λy=>Q k (xs++[y])) (k.of v)
theorem UK{k:K}{xs:List k.D}{v:V}{Q:(k':K)->List k'.D->Prop}(h:AU k xs v Q): ∃(k':K) (ys:List k'.D) (y:k'.D),xs.map k.toT=ys.map k'.toT/\k'.of v=some y/\Q k' (ys++[y]):=by
 unfold AU at h
 cases e:k.of v with
 |none=>
  simp only[e]at h
  refine aj λb=>?_
  obtain⟨h0,h⟩:=cQ h
  obtain⟨y,a,q⟩:=dS h
  refine b ?_
  simp only[Fu]at h0
  subst h0
  exact⟨v.kind,[],y,rfl,a,q⟩
 |some y=>simp only[e]at h;exact⟨k,xs,y,rfl,e,h⟩
def BZ(k:K)(xs:List k.D)(n:Nat)(v:V)(Q:(k':K)->List k'.D->Prop):Prop:=Fj (motive:=λz_=>Prop) (bif xs.isEmpty then a9 (v.kind.of v) λy=>Q v.kind [y]else False) (λy=>Q k (xs.take n++y::xs.drop n)) (k.of v)
theorem NI{k:K}{xs:List k.D}{n:Nat}{v:V}{Q:(k':K)->List k'.D->Prop}(h:BZ k xs n v Q): ∃(k':K) (ys:List k'.D),(xs.map k.toT).take n++v.t::(xs.map k.toT).drop n=ys.map k'.toT/\Q k' ys:=by
 unfold BZ at h
 cases e:k.of v with
 |none=>
  simp only[e]at h
  refine aj λb=>?_
  obtain⟨h0,h⟩:=cQ h
  obtain⟨y,a,q⟩:=dS h
  refine b ?_
  simp only[Fu]at h0
  subst h0
  exact⟨v.kind,[y],by simp only[K.of_t a];simp,q⟩
 |some y=>simp only[e]at h;exact⟨k,_,by simp only[K.of_t e,jX,gr,List.map_take,List.map_drop],h⟩
def xq(nm:NM)(ss:Sg->List aW->(aC->Sg->Prop)->Prop)(t:Expr)(b:List aW)(k:K):List k.D->Sg->(aC->Sg->Prop)->Prop
 | [],σ,Q=>Q .next σ
 |a::xs,σ,Q=>mx nm σ t (k.toV a) λσ2=>ss σ2 b λo c=>match o with
  | .next=>xq nm ss t b k xs c Q
  | .ret v=>Q (.ret v) c
def yg(r:aO)(nm:NM)(ss:Sg->List aW->(aC->Sg->Prop)->Prop)(c:Expr)(b:List aW):Nat->Sg->(aC->Sg->Prop)->Prop
 |0,_,_=>False
 |n+1,σ,Q=>r.t nm σ c λt ah=>aE t (ss ah b λo a=>match o with
  | .next=>yg r nm ss c b n a Q
  | .ret v=>Q (.ret v) a) (Q .next ah)
def Af(r:aO)(nm:NM)(σ:Sg)(x:ag)(i:Expr)(v:V)(Q:Sg->Prop):Prop:=hO nm σ x (λk xs=>a9 (k.of v) λy=>r.s nm σ i λj=>br j λn=>(0<=n/\n<xs.length)/\Q (mw σ x k (xs.set n.toNat y))) False
theorem GC{n:Nat}{r:aO}(hr:bQ G n r){nm:NM}{σ:Sg}{x:ag}{i:Expr}{v:V}{t:T}{Q:Sg->Prop}{Q':St->Prop}(hd:n<=d)(hn:Γ.env.scope.names=nm)(hs:aN σ S)(ev:t=v.t)(h:Af r nm σ x i v Q)(hq: ∀ah S1,aN ah S1->Q ah->Q' S1):
  uU G d Γ x i t S Q':=by
 refine mh hn hs h (λz=>z.elim) λk xs ho q=>?_
 refine aj λb=>?_
 obtain⟨a,R,ho,hm,hw⟩:=ho
 obtain⟨y,e,q⟩:=dS q
 refine b ?_
 refine⟨a,_,ho,(hr.s hd hn hs q).mono λt3 S3 w=>?_⟩
 refine aj λb=>?_
 obtain⟨v3,c,f,q⟩:=w
 refine b ?_
 subst f
 refine aj λb=>?_
 obtain⟨m,rfl,⟨h0,h1⟩,q⟩:=fy q
 obtain⟨g,hR,s4⟩:=hw k (xs.set m.toNat y)
 refine b ?_
 exact⟨m,_,R,g,c,hm,h0,by rw[bi];exact h1,by rw[ev,K.of_t e, ← Mz];exact hR,hq _ _ s4 q⟩
noncomputable def UD(v:EV):Option (Expr×Expr):=match v with
 | .lst es=>(match es with
  | [a,b]=>some (a,b)
  |_=>none)
 |_=>none
noncomputable def wU(e:Expr):Option (Expr×Expr):=UD (eM e)
theorem Q5{e:Expr}{p:Expr×Expr}:wU e=some p->∃q,e= .List [p.1,p.2] q:=by
 have hi:=md e
 unfold wU
 generalize eM e=v at hi ⊢
 induction hi with
 | @lst es q=>
  intro h
  match es,h with
  | [a,b],h=>cases h;exact⟨q,rfl⟩
 |_=>exact λh=>(L5 p (Eq.symm h)).elim
def CX(r:aO)(nm:NM)(σ:Sg)(e:Expr)(Q:Sg->Prop):Prop:=match wU e with
 |some (a,b)=>bif bh a&&bh b then r.e nm σ a λv ah=>r.e nm ah b λw σ2=>a9 v.asL λxs=>br w λn=>0<=n/\Q σ2 else False
 |none=>False
theorem PT{n:Nat}{r:aO}(hr:bQ G n r){nm:NM}{σ:Sg}{e:Expr}{Q:Sg->Prop}(hd:n<=d)(hn:Γ.env.scope.names=nm)(hs:aN σ S)(h:CX r nm σ e Q):b5 G d Γ S e λa ts S1=>∃ah,jn ts/\aN ah S1/\Q ah:=by
 unfold CX at h
 cases ep:wU e with
 |none=>rw[ep]at h;exact h.elim
 |some p=>
  rw[ep]at h
  obtain⟨q,rfl⟩:=Q5 ep
  obtain⟨c,h2⟩:=cQ h
  rw[cO]at c
  exact b5.list (b8.cons c.1 (hr.cE hd hn hs h2 λv ah S1 s1 h=>b8.cons c.2 (hr.cE hd hn s1 h λw σ2 S2 s2 h=>by
   obtain⟨xs,ev,q2⟩:=dS h
   exact gE q2 λk b q=>b8.nil ⟨by rw[eA];show 2<=16777216;decide,λz_=>⟨σ2,⟨xs,k,by rw[b,V.asL_eq ev];rfl,q.1⟩,s2,q.2⟩⟩)))
def Hl(r:aO)(nm:NM)(σ:Sg)(x:ag)(elt tgt iter:Expr)(ifs:List Expr)(scope:b9)(Q:aC->Sg->Prop):Prop:=Kh r nm σ elt tgt iter ifs scope (λk xs ah=>jR nm ah x (.ow k xs) λσ2=>Q .next σ2) (ifs.isEmpty&&A3 scope)
def FV(r:aO)(nm:NM)(σ:Sg)(x:ag)(elt t1 i1 t2 i2:Expr)(scope:b9)(Q:aC->Sg->Prop):Prop:=Di r nm σ elt t1 i1 t2 i2 scope λxs ah=>jR nm ah x (.ow .I xs) λσ2=>Q .next σ2
def GS(r:aO)(nm:NM)(mt:List ag)(σ:Sg)(x:ag)(e:Expr)(Q:aC->Sg->Prop)(b:Bool):Prop:=bif b then CX r nm σ e λah=>∀a,jR nm ah x (.bx a) λσ2=>Q .next σ2 else rW r nm (mt.contains x) σ e λv ah=>jR nm ah x v λσ2=>Q .next σ2
def IJ(r:aO)(nm:NM)(mt:List ag)(σ:Sg)(xs es:List Expr)(Q:aC->Sg->Prop)(o:Option (Option (List ag))):Prop:=match o with
 |some none=>mW r nm σ ((iQ xs).map mt.contains) es λvs ah=>vd nm ah (iQ xs) vs λσ2=>Q .next σ2
 |some (some ns)=>bif decide (ns.length<=1000)then mW r nm σ (ns.map mt.contains) es λvs ah=>bif vs.length==ns.length then vd nm ah ns.reverse vs.reverse λσ2=>Q .next σ2 else False else False
 |none=>False
def AI(nm:NM)(xs:List ag)(Q:aC->Sg->Prop)(ah:Sg)(vs:List V):Prop:=match vs with
 | []=>False
 |p::ps=>qu nm ah xs (p::ps) λσ2=>Q .next σ2
def Ky(r:aO)(nm:NM)(x:ag)(i:Expr)(Q:aC->Sg->Prop)(v:V)(ah:Sg):Prop:=hO nm ah x (λk xs=>r.s nm ah i λj=>br j λn=>(0<=n/\n<xs.length)/\a9 (k.of v) λy=>Q .next (mw ah x k (xs.set n.toNat y))) (w9 ah x λks=>ks.length<10000000/\r.s nm ah i λj=>a9 j.asR λp=>Q .next ⟨fO ah.l x (.dct (eN ks p)),ah.c⟩)
def IN(r:aO)(nm:NM)(σ:Sg)(x:ag)(i i2 e e2:Expr)(Q:aC->Sg->Prop)(o:Option (Option (List ag))):Prop:=match o with
 |some none=>r.s nm σ e λv=>r.s nm σ e2 λv2=>Af r nm σ x i v λah=>Af r nm ah x i2 v2 λσ2=>Q .next σ2
 |_=>False
def I4(r:aO)(nm:NM)(σ:Sg)(x:ag)(i e:Expr)(Q:aC->Sg->Prop):Prop:=hO nm σ x (λk xs=>r.s nm σ i λj=>br j λn=>r.s nm σ e λv=>(0<=n/\n<=xs.length/\xs.length<1000000)/\BZ k xs n.toNat v λk' ys=>Q .next (mw σ x k' ys)) False
def Jr(r:aO)(nm:NM)(σ:Sg)(x:ag)(op:eJ)(e:Expr)(Q:aC->Sg->Prop):Prop:=Hx nm σ x λa=>r.e nm σ e λb ah=>Cs op a b λc=>jR nm ah x (.fr c) λσ2=>Q .next σ2
def JB(r:aO)(nm:NM)(σ:Sg)(x:ag)(i:Expr)(op:eJ)(e:Expr)(Q:aC->Sg->Prop):Prop:=hO nm σ x (λk xs=>r.s nm σ i λj=>br j λn=>(0<=n/\n<xs.length)/\a9 (xs[n.toNat]?) λy=>r.s nm σ e λu=>Cs op (k.toV y) u λc=>a9 (k.of c) λz=>Q .next (mw σ x k (xs.set n.toNat z))) False
def GQ(r:aO)(nm:NM)(σ:Sg)(x:ag)(e:Expr)(Q:aC->Sg->Prop):Prop:=hO nm σ x (λk xs=>r.s nm σ e λv=>xs.length<10000000/\AU k xs v λk' zs=>Q .next (mw σ x k' zs)) False
def JS(v:V)(q:Prop):Prop:=match v with
 | .no=>q
 |_=>False
def V7(r:aO)(ss:Sg->List aW->(aC->Sg->Prop)->Prop)(nm:NM)(mt:List ag)(σ:Sg)(Q:aC->Sg->Prop)(v:SV):Prop:=match v with
 | .asComp x elt tgt iter ifs scope=>Hl r nm σ x elt tgt iter ifs scope Q
 | .asComp2 x elt t1 i1 t2 i2 scope=>FV r nm σ x elt t1 i1 t2 i2 scope Q
 | .asE x e=>GS r nm mt σ x e Q (x==("box":ag))
 | .asTups xs es=>IJ r nm mt σ xs es Q (sT nm xs es)
 | .asTup xs e=>r.e nm σ e λv ah=>AI nm xs Q ah (oS v)
 | .setSub x i e=>r.e nm σ e λv ah=>Ky r nm x i Q v ah
 | .setSub2 x i i2 e e2=>IN r nm σ x i i2 e e2 Q (sT nm [.Subscript (.Name x default) i default,.Subscript (.Name x default) i2 default] [e,e2])
 | .insert x i e=>I4 r nm σ x i e Q
 | .aug x op e=>Jr r nm σ x op e Q
 | .augSub x i op e=>JB r nm σ x i op e Q
 | .app x e=>GQ r nm σ x e Q
 | .expr e=>r.e nm σ e λv ah=>JS v (Q .next ah)
 | .ret e=>r.e nm σ e λv ah=>Q (.ret v) ah
 | .forr t e b=>jN r nm σ t e λk xs ah=>xq nm ss t b k xs ah Q
 | .whl c b=>yg r nm ss c b 8 σ Q
 | .ifs c x y=>r.t nm σ c λb ah=>aE b (ss ah x Q) (ss ah y Q)
 |_=>False
def DB(r:aO)(ss:Sg->List aW->(aC->Sg->Prop)->Prop)(nm:NM)(mt:List ag)(σ:Sg)(st:aW)(Q:aC->Sg->Prop):Prop:=V7 r ss nm mt σ Q (gX st)
def Da(P:bK)(r:aO)(ss:Sg->List aW->(aC->Sg->Prop)->Prop)(nm:NM)(mt:List ag):Sg->List aW->(aC->Sg->Prop)->Prop
 |σ,[],Q=>Q .next σ
 |σ,st::rest,Q=>DB r ss nm mt σ st λo ah=>match o with
  | .next=>Da P r ss nm mt ah rest Q
  | .ret v=>Q (.ret v) ah
def mD(P:bK)(N:Nat)(nm:NM)(mt:List ag):Nat->Sg->List aW->(aC->Sg->Prop)->Prop
 |0=>λa a a=>False
 |n+1=>Da P (lw P N) (mD P N nm mt n) nm mt
def WS(G:aK)(d:Nat)(Γ:Fm)(σ:Sg)(a:List aW)(Q:aC->Sg->Prop):Prop:=∀S,aN σ S->eH G d Γ S a (XP Q)
inductive R9(nm:NM)(ss:Sg->List aW->(aC->Sg->Prop)->Prop)(t:Expr)(b:List aW)(k:K)(xs:List k.D)(Q:aC->Sg->Prop)(i:Nat)(S:St):Prop
 |mk (σ:Sg) (s:aN σ S) (q:xq nm ss t b k (xs.drop i) σ Q)
inductive QG(r:aO)(nm:NM)(ss:Sg->List aW->(aC->Sg->Prop)->Prop)(c:Expr)(b:List aW)(Q:aC->Sg->Prop)(n:Nat)(S:St):Prop
 |mk (σ:Sg) (s:aN σ S) (q:yg r nm ss c b n σ Q)
theorem ug{nm:NM}{σ:Sg}{x:ag}{v:fw}{r:R}{Q:aC->Sg->Prop}(hn:Γ.env.scope.names=nm)(hs:aN σ S)(hr:RM v r)(h:jR nm σ x v λσ2=>Q .next σ2): ∃S2,ee Γ S x r S2/\XP Q .next S2:=by
 obtain⟨S2,σ2,hp,s2,q⟩:=xW hn hs hr h
 exact⟨S2,hp,.next,σ2,rfl,s2,q⟩
theorem Xg{P:bK}{D:Nat}(m:bU G P D){n:Nat}{r:aO}(hr:bQ G n r){nm:NM}{σ:Sg}{x:ag}{p gl pos:ax}{elt tgt iter:Expr}{ifs:List Expr}{scope:b9}{Q:aC->Sg->Prop}(hd:n<=d)(hn:Γ.env.scope.names=nm)(hs:aN σ S)(h:Hl r nm σ x elt tgt iter ifs scope Q):Ex G d Γ S (.Assign [.Name x p] (.ListComp elt [⟨tgt,iter,ifs,0⟩] scope gl) pos) (XP Q):=by
 obtain⟨q1,q2,j⟩:=Ki m hr hd hn hs _ rfl h
 have g:nF G d Γ S tgt elt iter ifs scope λacc X=>∀ad,∃S2,ee Γ X x (.ow ad acc) S2/\XP Q .next S2:=
  ck.mono' j λbl S1 w=>by
   refine aj λf=>?_
   obtain⟨J,a,b,c,k⟩:=w
   refine f ?_
   refine⟨J,a,b,c,λacc X l ad=>?_⟩
   refine aj λf=>?_
   obtain⟨k,xs,ah,e,s1,q⟩:=k acc X l
   refine f ?_
   exact ug hn s1 (.ow e) q
 refine Ex.withWf λhw=>?_
 cases i:wM nm x p scope gl
 ·exact Ex.assignG (by rw[yt hn hw,i]) (gi.ow (b5.comp q1 q2 g))
 ·exact Ex.assignComp (by rw[yt hn hw,i]) q1 q2 g
theorem VA{P:bK}{D:Nat}(m:bU G P D){n:Nat}{r:aO}(hr:bQ G n r){nm:NM}{σ:Sg}{x:ag}{p gl pos:ax}{elt t1 i1 t2 i2:Expr}{scope:b9}{Q:aC->Sg->Prop}(hd:n<=d)(hn:Γ.env.scope.names=nm)(hs:aN σ S)(h:FV r nm σ x elt t1 i1 t2 i2 scope Q):Ex G d Γ S (.Assign [.Name x p] (.ListComp elt [⟨t1,i1,[],0⟩,⟨t2,i2,[],0⟩] scope gl) pos) (XP Q):=by
 refine aj λf=>?_
 obtain⟨q1,q2,i,g⟩:=WH m hr hd hn hs h
 refine f ?_
 have g:rY G d Γ S t1 i1 t2 i2 elt scope λacc X=>∀ad,∃S2,ee Γ X x (.ow ad acc) S2/\XP Q .next S2:=
  ck.mono' g λbl S1 w=>by
   refine aj λf=>?_
   obtain⟨J,a,b,c⟩:=w
   refine f ?_
   refine⟨J,a,b,λacc X l=>⟨(c acc X l).1,λad=>?_⟩⟩
   refine aj λf=>?_
   obtain⟨k,xs,ah,e,s1,ys,e2,q⟩:=(c acc X l).2
   refine f ?_
   exact ug hn s1 (.ow (e.trans e2)) q
 refine Ex.withWf λhw=>?_
 cases j:wM nm x p scope gl
 ·exact Ex.assignG (by rw[yt hn hw,j]) (gi.ow (b5.comp2 q1 q2 i g))
 ·exact Ex.assignComp2 (by rw[yt hn hw,j]) q1 q2 i g
theorem T6{n:Nat}{r:aO}(hr:bQ G n r){nm:NM}{mt:List ag}{σ:Sg}{x:ag}{p pos:ax}{e:Expr}{Q:aC->Sg->Prop}(hc:gB e=true)(hd:n<=d)(hn:Γ.env.scope.names=nm)(hs:aN σ S): ∀b,GS r nm mt σ x e Q b->Ex G d Γ S (.Assign [.Name x p] e pos) (XP Q)
 |true,h=>Ex.assign hc (gi.ow ((PT hr hd hn hs h).mono λa ts S1 w=>by
  refine aj λc=>?_
  obtain⟨ah,hb,s1,q⟩:=w
  refine c ?_
  exact ug hn s1 (.bx hb) (q a)))
 |false,h=>Ex.assign hc ((FU hr hd hn hs (show rW r nm (mt.contains x) σ e (λv ah=>jR nm ah x v λσ2=>Q .next σ2)from h)).mono λrr S1 w=>by
  refine aj λc=>?_
  obtain⟨v,ah,m,s1,q⟩:=w
  refine c ?_
  exact ug hn s1 m q)
theorem WA{n:Nat}{r:aO}(hr:bQ G n r){nm:NM}{mt:List ag}{σ:Sg}{xs es:List Expr}{k k':Nat}{p p' pos:ax}{Q:aC->Sg->Prop}(g1:jk xs=true)(g2:es.length<=1000)(g3:xs.length=es.length)(hd:n<=d)(hn:Γ.env.scope.names=nm)(hs:aN σ S): ∀o,sT nm xs es=o->IJ r nm mt σ xs es Q o->Ex G d Γ S (.Assign [.Tuple xs k p] (.Tuple es k' p') pos) (XP Q)
 |none,_,h=>h.elim
 |some none,a,h=>Ex.withWf λhw=>Ex.assignTup (AR hn hw a) g1 g2 g3 ((z8 hr hd hn hs h).mono λrs S1 w=>by
  refine aj λb=>?_
  obtain⟨vs,ah,m,s1,q⟩:=w
  obtain⟨S2,σ2,hp,s2,q⟩:=AA hn m s1 q
  refine b ?_
  exact⟨S2,hp,.next,σ2,rfl,s2,q⟩)
 |some (some ns),a,h=>Ex.withWf λhw=>Ex.assignSwap (AR hn hw a) (of_decide_eq_true (cQ h).1) ((z8 hr hd hn hs (cQ h).2).mono λrs S1 w=>by
  refine aj λb=>?_
  obtain⟨vs,ah,m,s1,q⟩:=w
  obtain⟨hl,q⟩:=cQ q
  obtain⟨S2,σ2,hp,s2,q⟩:=AA hn m.rev s1 q
  refine b ?_
  exact⟨by rw[← m.len,beq_iff_eq.mp hl],S2,hp,.next,σ2,rfl,s2,q⟩)
theorem Pj{n:Nat}{r:aO}(hr:bQ G n r){nm:NM}{σ:Sg}{xs:List Expr}{k:Nat}{p pos:ax}{e:Expr}{Q:aC->Sg->Prop}(g1:jk xs=true)(g2:gB e=true)(g3:uD e=true)(hd:n<=d)(hn:Γ.env.scope.names=nm)(hs:aN σ S)(h:r.e nm σ e λv ah=>AI nm (iQ xs) Q ah (oS v)):Ex G d Γ S (.Assign [.Tuple xs k p] e pos) (XP Q):=
 Ex.unpack g2 g3 (hr.cE hd hn hs h λv ah S1 s1 q=>by
  have key: ∀vs,AI nm (iQ xs) Q ah vs->vs≠ []/\Dt Γ S1 xs (vs.map V.t) λσ2=>Q .next σ2:=λvs q=>by
   induction vs with
   |nil=>exact q.elim
   |cons p ps=>exact⟨Mw _ _,Gd hn g1 s1 q⟩
  refine aj λa=>?_
  obtain⟨h0,S2,σ2,hp,s2,q⟩:=key _ q
  refine a ?_
  exact⟨_,S2,Dr h0,hp,.next,σ2,rfl,s2,q⟩)
theorem Pp{n:Nat}{r:aO}(hr:bQ G n r){nm:NM}{σ:Sg}{x:ag}{p ps pos:ax}{i e:Expr}{Q:aC->Sg->Prop}(g1:gB e=true)(g2:dM i=true)(hd:n<=d)(hn:Γ.env.scope.names=nm)(hs:aN σ S)(h:r.e nm σ e λv ah=>Ky r nm x i Q v ah):Ex G d Γ S (.Assign [.Subscript (.Name x p) i ps] e pos) (XP Q):=
 Ex.subStore g1 (hr.cE hd hn hs h λv ah S1 s1 q=>mh hn s1 q (λq=>by
  refine aj λb=>?_
  obtain⟨ks,a,⟨hz,q⟩,g,hw⟩:=GX s1 q
  refine b ?_
  refine o6.dct g (by rw[eA];omega) (hr.cS hd hn s1 q λj q=>?_) g2
  refine aj λb=>?_
  obtain⟨y,c,q⟩:=dS q
  obtain⟨l',f,s3⟩:=hw (eN ks y)
  refine b ?_
  exact⟨rfl,y,l',by rw[V.asR_eq c];rfl,f,.next,_,rfl,s3,q⟩) λk xs ho q=>by
  refine aj λb=>?_
  obtain⟨a,R,ho,hm,hw⟩:=ho
  refine b ?_
  refine o6.own g2 ho (hr.cS hd hn s1 q λj q=>gE q λm e2 q=>?_)
  refine aj λb=>?_
  obtain⟨y,c,q2⟩:=dS q.2
  obtain⟨S3,hR,s3⟩:=hw k (xs.set m.toNat y)
  refine b ?_
  rw[Mz]at hR
  exact⟨m,_,R,S3,e2,hm,q.1.1,by rw[bi];exact q.1.2,by rw[K.of_t c];exact hR,.next,_,rfl,s3,q2⟩)
theorem Xe{n:Nat}{r:aO}(hr:bQ G n r){nm:NM}{σ:Sg}{x:ag}{p pos:ax}{op:eJ}{e:Expr}{Q:aC->Sg->Prop}(hd:n<=d)(hn:Γ.env.scope.names=nm)(hs:aN σ S)(h:Jr r nm σ x op e Q):Ex G d Γ S (.AugAssign (.Name x p) op e pos) (XP Q):=by
 obtain⟨a,b,h⟩:=UE hn hs h
 refine Ex.aug b (hr.cE hd hn hs h λv ah S1 s1 q=>?_)
 refine aj λf=>?_
 obtain⟨c,hc,q⟩:=HN (G:=G) q
 obtain⟨S2,hp,q⟩:=ug (r:=.fr c.t) hn s1 (.fr rfl) q
 refine f ?_
 exact⟨c.t,S2,hc,hp,q⟩
theorem TI{n:Nat}{r:aO}(hr:bQ G n r){nm:NM}{σ:Sg}{x:ag}{p ps pos:ax}{i:Expr}{op:eJ}{e:Expr}{Q:aC->Sg->Prop}(g:dM i=true)(hd:n<=d)(hn:Γ.env.scope.names=nm)(hs:aN σ S)(h:JB r nm σ x i op e Q):Ex G d Γ S (.AugAssign (.Subscript (.Name x p) i ps) op e pos) (XP Q):=
 mh hn hs h (λz=>z.elim) λk xs ho q=>by
  refine aj λb=>?_
  obtain⟨a,R,ho,hm,hw⟩:=ho
  refine b ?_
  refine Ex.augSub g ho (hr.cS hd hn hs q λj q=>gE q λm e2 q=>?_)
  obtain⟨y,v,l⟩:=dS q.2
  refine⟨m,_,k.toT y,e2,ho,q.1.1,by rw[jd,v];rfl,hr.cS hd hn hs l λu f=>?_⟩
  refine aj λb=>?_
  obtain⟨c,hc,s⟩:=HN (G:=G) f
  obtain⟨z,ez,o⟩:=dS s
  obtain⟨w,hR,s4⟩:=hw k (xs.set m.toNat z)
  refine b ?_
  rw[Mz]at hR
  rw[K.vt]at hc
  exact⟨c.t,_,R,w,hc,hm,by rw[bi];exact q.1.2,by rw[K.of_t ez];exact hR,.next,_,rfl,s4,o⟩
theorem PU{n:Nat}{r:aO}(hr:bQ G n r){nm:NM}{σ:Sg}{x:ag}{p apos cN pos:ax}{e:Expr}{Q:aC->Sg->Prop}(g1:(apos.endLine==cN.line)=true)(g2:bh e=true)(hd:n<=d)(hn:Γ.env.scope.names=nm)(hs:aN σ S)(h:GQ r nm σ x e Q):Ex G d Γ S (.Expr (.Call (.Attribute (.Name x p) "append" apos) [e] [] cN) pos) (XP Q):=
 mh hn hs h (λz=>z.elim) λk xs ho q=>by
  refine aj λb=>?_
  obtain⟨a,R,ho,hm,hw⟩:=ho
  refine b ?_
  refine Ex.append g1 g2 ho (hr.cS hd hn hs q λv q=>?_)
  refine aj λb=>?_
  obtain⟨k',ys,y,f,c,q2⟩:=UK q.2
  obtain⟨S3,hR,s3⟩:=hw k' (ys++[y])
  refine b ?_
  simp only[jX]at hR
  exact⟨_,R,S3,hm,by simp only[bi,eA];exact zC q.1 (by decide),by simp only[f,K.of_t c];exact hR,.next,_,rfl,s3,q2⟩
theorem RY{n:Nat}{r:aO}(hr:bQ G n r){nm:NM}{σ:Sg}{x:ag}{p apos cN pos:ax}{i e:Expr}{Q:aC->Sg->Prop}(g1:(apos.endLine==cN.line)=true)(g2:bh i=true)(g3:bh e=true)(hd:n<=d)(hn:Γ.env.scope.names=nm)(hs:aN σ S)(h:I4 r nm σ x i e Q):Ex G d Γ S (.Expr (.Call (.Attribute (.Name x p) "insert" apos) [i,e] [] cN) pos) (XP Q):=
 mh hn hs h (λz=>z.elim) λk xs ho q=>by
  refine aj λb=>?_
  obtain⟨a,R,ho,hm,hw⟩:=ho
  refine b ?_
  refine Ex.insert g1 g2 g3 ho (hr.cS hd hn hs q λj q=>gE q λm e2 q=>⟨m,e2,hr.cS hd hn hs q λv q=>?_⟩)
  refine aj λb=>?_
  obtain⟨k',ys,c,q2⟩:=NI q.2
  obtain⟨f,hR,s4⟩:=hw k' ys
  refine b ?_
  exact⟨_,R,f,hm,q.1.1,by rw[bi];exact q.1.2.1,by rw[bi];exact q.1.2.2,by rw[c];exact hR,.next,_,rfl,s4,q2⟩
theorem W3{n:Nat}{r:aO}(hr:bQ G n r){nm:NM}{σ:Sg}{x:ag}{p p2 ps iD pt pv pos:ax}{kt kv:Nat}{i i2 e e2:Expr}{Q:aC->Sg->Prop}(g1:dM i=true)(g2:dM i2=true)(g3:bh e=true)(g4:bh e2=true)(hd:n<=d)(hn:Γ.env.scope.names=nm)(hs:aN σ S): ∀o,sT nm [.Subscript (.Name x default) i default,.Subscript (.Name x default) i2 default] [e,e2]=o->IN r nm σ x i i2 e e2 Q o->Ex G d Γ S (.Assign [.Tuple [.Subscript (.Name x p) i ps,.Subscript (.Name x p2) i2 iD] kt pt] (.Tuple [e,e2] kv pv) pos) (XP Q)
 |none,_,h=>h.elim
 |some (some _),_,h=>h.elim
 |some none,a,h=>Ex.withWf λhw=>Ex.setSub2 g1 g2 g3 g4 (AR hn hw a) (hr.cS hd hn hs h λv q=>hr.cS hd hn hs q λv2 q=>GC hr hd hn hs rfl q λah S1 s1 q=>GC hr hd hn s1 rfl q λσ2 S2 s2 q=>⟨.next,σ2,rfl,s2,q⟩)
theorem NF{P:bK}{D:Nat}(m:bU G P D){n:Nat}{r:aO}(hr:bQ G n r){ss:Sg->List aW->(aC->Sg->Prop)->Prop}{nm:NM}{σ:Sg}{t e:Expr}{b:List aW}{pos:ax}{Q:aC->Sg->Prop}(y:dX e=true)(hd:n<=d)(hn:Γ.env.scope.names=nm)(l: ∀{σ g Q},ss σ g Q->WS G d Γ σ g Q)(hs:aN σ S)(h:jN r nm σ t e λk xs ah=>xq nm ss t b k xs ah Q):Ex G d Γ S (.For t e b [] pos) (XP Q):=by
 refine Ex.forS y (ck.mono' (sR m hr hd hn hs h) λbl S1 w=>?_)
 refine aj λc=>?_
 obtain⟨k,xs,ah,e,s1,q⟩:=w
 refine c ?_
 rw[e]
 refine⟨R9 nm ss _ _ k xs Q,⟨ah,s1,q⟩,λi t S f w=>?_,λS w=>?_⟩
 ·obtain⟨σ,s,q⟩:=w
  rw[jd]at f
  refine aj λc=>?_
  obtain⟨a,ha,p⟩:=lX.mp f
  obtain⟨hi,x⟩:=gv.mp ha
  rw[List.drop_eq_getElem_cons hi,x]at q
  obtain⟨S2,σ2,hb,s2,q⟩:=sP hn s q
  refine c ?_
  rw[K.vt,p]at hb
  refine⟨S2,hb,(l q S2 s2).mono λo S3 w=>?_⟩
  refine aj λc=>?_
  obtain⟨ov,j,u,s3,q⟩:=w
  refine c ?_
  rw[u]
  induction ov with
  |next=>exact⟨λz_=>⟨j,s3,q⟩,λt e=>by cases e⟩
  |ret v=>exact⟨λe=>(by cases e),λt e=>by cases e;exact⟨.ret v,j,rfl,s3,q⟩⟩
 ·obtain⟨σ,s,q⟩:=w
  rw[bi,List.drop_length]at q
  exact⟨.next,σ,rfl,s,q⟩
theorem Ql{n:Nat}{r:aO}(hr:bQ G n r){ss:Sg->List aW->(aC->Sg->Prop)->Prop}{nm:NM}{σ:Sg}{c:Expr}{b:List aW}{pos:ax}{Q:aC->Sg->Prop}(hd:n<=d)(hn:Γ.env.scope.names=nm)(g: ∀{σ a Q},ss σ a Q->WS G d Γ σ a Q)(hs:aN σ S)(h:yg r nm ss c b 8 σ Q):Ex G d Γ S (.While c b [] pos) (XP Q):=by
 refine Ex.whileS (QG r nm ss _ _ Q) 8 ⟨σ,hs,h⟩ λn S w=>?_
 obtain⟨σ,s,q⟩:=w
 induction n with
 |zero=>exact q.elim
 |succ n=>
  refine hr.cT hd hn s q λb ah S1 s1 q=>⟨λe=>⟨.next,ah,rfl,s1,q.f e⟩,λe=>(g (q.t e) S1 s1).mono λo S2 w=>?_⟩
  obtain⟨ov,σ2,i,s2,q⟩:=w
  rw[i]
  induction ov with
  |next=>exact⟨λz_=>⟨n,lU n,σ2,s2,q⟩,λt e=>by cases e⟩
  |ret v=>exact⟨λe=>(by cases e),λt e=>by cases e;exact⟨.ret v,σ2,rfl,s2,q⟩⟩
theorem G3{v:V}{q:Prop}(h:JS v q):v.t= .none/\q:=by
 induction v with
 |no=>exact⟨rfl,h⟩
 |_=>exact h.elim
theorem Xl{P:bK}{D:Nat}(c:bU G P D){n:Nat}{r:aO}(hr:bQ G n r){ss:Sg->List aW->(aC->Sg->Prop)->Prop}{nm:NM}{mt:List ag}{σ:Sg}{st:aW}{Q:aC->Sg->Prop}(hd:n<=d)(hn:Γ.env.scope.names=nm)
  (a: ∀{σ i Q},ss σ i Q->WS G d Γ σ i Q) (hs:aN σ S) (h:DB r ss nm mt σ st Q):Ex G d Γ S st (XP Q):=by
 have hi:=xK st
 unfold DB at h
 generalize gX st=v at h hi
 revert h
 induction hi with
 |asComp=>exact λh=>Xg c hr hd hn hs h
 |asComp2=>exact λh=>VA c hr hd hn hs h
 |asE hc=>exact λh=>T6 hr hc hd hn hs _ h
 |asTups g1 g2 g3=>exact λh=>WA hr g1 g2 g3 hd hn hs _ rfl h
 |asTup g1 g2 g3=>exact λh=>Pj hr g1 g2 g3 hd hn hs h
 |setSub g1 g2=>exact λh=>Pp hr g1 g2 hd hn hs h
 |aug=>exact λh=>Xe hr hd hn hs h
 |augSub g=>exact λh=>TI hr g hd hn hs h
 |app g1 g2=>exact λh=>PU hr g1 g2 hd hn hs h
 |insert g1 g2 g3=>exact λh=>RY hr g1 g2 g3 hd hn hs h
 |setSub2 g1 g2 g3 g4=>exact λh=>W3 hr g1 g2 g3 g4 hd hn hs _ rfl h
 |expr hc=>exact λh=>Ex.exprS hc (hr.cE hd hn hs h λv ah S1 s1 q=>⟨(G3 q).1,.next,ah,rfl,s1,(G3 q).2⟩)
 |ret=>exact λh=>Ex.retE (hr.cE hd hn hs h λv ah S1 s1 q=>⟨.ret v,ah,rfl,s1,q⟩)
 |forr j=>exact λh=>NF c hr j hd hn a hs h
 |whl=>exact λh=>Ql hr hd hn a hs h
 |ifs=>exact λh=>Ex.ifS (hr.cT hd hn hs h λb ah S1 s1 q=>⟨λe=>a (q.t e) S1 s1,λe=>a (q.f e) S1 s1⟩)
 |_=>exact rg
theorem WS.nil{σ:Sg}{Q:aC->Sg->Prop}(h:Q .next σ):WS G d Γ σ [] Q:=λS hs=>eH.nil ⟨.next,σ,rfl,hs,h⟩
def qB(G:aK)(d:Nat)(Γ:Fm)(rest:List aW)(Q:aC->Sg->Prop)(o:aC)(σ:Sg):Prop:=match o with
 | .next=>WS G d Γ σ rest Q
 | .ret v=>Q (.ret v) σ
theorem WS.cons{σ:Sg}{st:aW}{rest:List aW}{Q:aC->Sg->Prop}(h: ∀S,aN σ S->Ex G d Γ S st (XP (qB G d Γ rest Q))):WS G d Γ σ (st::rest) Q:=λS hs=>by
 refine eH.cons ((h S hs).mono λo S1 w=>?_)
 obtain⟨ov,ah,e,s1,q⟩:=w
 subst e
 induction ov with
 |next=>exact⟨λz_=>q S1 s1,λt e=>by cases e⟩
 |ret v=>exact⟨λe=>(by cases e),λt e=>by cases e;exact⟨.ret v,ah,rfl,s1,q⟩⟩
theorem WS.mono{σ:Sg}{a:List aW}{Q Q':aC->Sg->Prop}(h:WS G d Γ σ a Q)(hq: ∀o σ,Q o σ->Q' o σ):WS G d Γ σ a Q':=λS hs=>(h S hs).mono λo S1 w=>by
 obtain⟨ov,ah,e,s1,q⟩:=w
 exact⟨ov,ah,e,s1,hq _ _ q⟩
theorem JC{P:bK}{D:Nat}(c:bU G P D){n:Nat}{r:aO}(hr:bQ G n r){ss:Sg->List aW->(aC->Sg->Prop)->Prop}{nm:NM}{mt:List ag}(hd:n<=d)(hn:Γ.env.scope.names=nm)
  (b: ∀{σ a Q},ss σ a Q->WS G d Γ σ a Q): ∀{a:List aW} {σ:Sg} {Q:aC->Sg->Prop},Da P r ss nm mt σ a Q->WS G d Γ σ a Q
 | [],σ,Q,h=>WS.nil h
 |st::rest,σ,Q,h=>by
  refine WS.cons λS hs=>(Xl c hr hd hn b hs h).mono λo S1 w=>?_
  obtain⟨ov,ah,e,s1,q⟩:=w
  refine⟨ov,ah,e,s1,?_⟩
  induction ov with
  |next=>exact JC c hr hd hn b q
  |ret v=>exact q
theorem bW{P:bK}{D:Nat}(a:bU G P D){N:Nat}{nm:NM}{mt:List ag}(hd:D<=d)(hn:Γ.env.scope.names=nm): ∀{m:Nat} {σ:Sg} {b:List aW} {Q:aC->Sg->Prop},mD P N nm mt m σ b Q->WS G d Γ σ b Q
 |0,_,_,_,h=>h.elim
 |m+1,_,_,_,h=>JC a (o9 a N) hd hn (λh=>bW a hd hn h) h
noncomputable def Cy(f:Flow)(m:bX Flow):bX Flow:=match f with
 | .next=>m
 |f=>pure f
theorem J4{env:c6}{ys:List aW}: ∀(xs:List aW),oh (xs++ys) env=oh xs env>>=λf=>Cy f (oh ys env)
 | []=>by
  show oh ys env=(pure tM:bX Flow)>>=λf=>Cy f (oh ys env)
  simp only[pure_bind]
  try rfl
 |x::xs=>by
  have e1: ∀r,oh (x::r) env=exec x env>>=λf=>Cy f (oh r env):=λr=>by
   rw[arm_execs_cons];congr 1<;>first |done|(funext f;cases f<;>rfl)
  simp only[mQ,e1,e1,J4 xs,bind_assoc]
  congr 1;funext f
  cases f<;>first |rfl|(show(pure _:bX Flow)=(pure _:bX Flow)>>=_;simp only[pure_bind];rfl)
theorem WS.app{σ:Sg}{s1 s2:List aW}{Q:aC->Sg->Prop}(h:WS G d Γ σ s1 (qB G d Γ s2 Q)):WS G d Γ σ (s1++s2) Q:=by
 intro S hs H led c
 rw[J4]
 refine ae.bind ((h S hs H led c).mono λf H' l le w=>?_)
 obtain⟨o,S1,a,b,ov,ah,e,s1,q⟩:=w
 subst e
 induction ov with
 |next=>
  have a:f= .next:=a
  subst a
  exact q S1 s1 H' l b
 |ret v=>
  obtain⟨w,rfl,rv⟩:=a
  exact ae.pure ⟨.ret v.t,S1,⟨w,rfl,rv⟩,b,.ret v,ah,rfl,s1,q⟩
end
section
variable {G:aK} {d:Nat} {Γ:Fm} {S:St}
noncomputable def ya:Expr:=.Name "" default
noncomputable def B3(v:SV):Option (Expr×List aW):=match v with
 | .whl c b=>some (c,b)
 |_=>none
noncomputable def xZ(v:SV):Option (Expr×Expr×List aW):=match v with
 | .forr t e b=>some (t,e,b)
 |_=>none
noncomputable def wG(s:aW):Expr:=(B3 (gX s)).elim ya (·.1)
noncomputable def sO(s:aW):List aW:=(B3 (gX s)).elim [] (·.2)
noncomputable def my(s:aW):Expr:=(xZ (gX s)).elim ya (·.1)
noncomputable def pd(s:aW):Expr:=(xZ (gX s)).elim ya (·.2.1)
noncomputable def fz(s:aW):List aW:=(xZ (gX s)).elim [] (·.2.2)
noncomputable def ux(s:aW):Bool:=(B3 (gX s)).isSome
noncomputable def r8(s:aW):Bool:=(xZ (gX s)).isSome
theorem Oz{s:aW}:ux s=true->∃pos,s= .While (wG s) (sO s) [] pos:=by
 have hi:=xK s
 unfold ux wG sO
 generalize gX s=v at hi ⊢
 induction hi with
 |whl=>exact λz_=>⟨_,rfl⟩
 |_=>exact λh=>(rz h).elim
theorem Wz{s:aW}:r8 s=true->dX (pd s)=true/\∃pos,s= .For (my s) (pd s) (fz s) [] pos:=by
 have hi:=xK s
 unfold r8 pd my fz
 generalize gX s=v at hi ⊢
 induction hi with
 |forr h=>exact λz_=>⟨h,_,rfl⟩
 |_=>exact λh=>(rz h).elim
inductive VW{X:Type}(st:X->Sg)(inv:Nat->X->Prop)(n:Nat)(S:St):Prop
 |mk (x:X) (s:aN (st x) S) (i:inv n x)
def gC{X:Type}(st:X->Sg)(inv:Nat->X->Prop)(Q:aC->Sg->Prop)(n:Nat)(o:aC)(σ:Sg):Prop:=match o with
 | .next=>∃m x',m<n/\inv m x'/\σ=st x'
 | .ret v=>Q (.ret v) σ
theorem WS.whlG{P:bK}{D N:Nat}(j:bU G P D)(hd:D<=d){nm:NM}(hn:Γ.env.scope.names=nm){s:aW}(g:ux s=true){rest:List aW}{σ:Sg}{Q:aC->Sg->Prop}{X:Type}(st:X->Sg)(inv:Nat->X->Prop){n0:Nat}(x0:X)(h0:inv n0 x0)(e0:σ=st x0)
  (step: ∀n x,inv n x->∃Qt:Bool->Sg->Prop,(lw P N).t nm (st x) (wG s) Qt/\∀b ah,Qt b ah->(b=false->WS G d Γ ah rest Q)/\(b=true->WS G d Γ ah (sO s) (gC st inv Q n))):WS G d Γ σ (s::rest) Q:=by
 refine WS.cons λS hs=>?_
 rw[e0]at hs
 obtain⟨pos,es⟩:=Oz g
 rw[es]
 refine Ex.whileS (VW st inv) n0 ⟨x0,hs,h0⟩ λn S w=>?_
 refine aj λa=>?_
 obtain⟨x,s,i⟩:=w
 obtain⟨Qt,h,hq⟩:=step n x i
 refine a ?_
 refine(o9 j N).cT hd hn s h λb ah S1 s1 c=>⟨λe=>⟨.next,ah,rfl,s1,(hq b ah c).1 e⟩,λe=>((hq b ah c).2 e S1 s1).mono λo S2 w=>?_⟩
 obtain⟨ov,σ2,k,s2,q⟩:=w
 rw[k]
 induction ov with
 |next=>
  refine aj λa=>?_
  obtain⟨m,x',hm,f,ex⟩:=q
  refine a ?_
  rw[ex]at s2
  exact⟨λz_=>⟨m,hm,x',s2,f⟩,(λt e=>nomatch e)⟩
 |ret v=>exact⟨(λe=>nomatch e),λt e=>cC.retInj e▸⟨.ret v,σ2,rfl,s2,q⟩⟩
def lu(P:bK)(N:Nat)(nm:NM)(mt:List ag)(m:Nat)(s:aW)(σ:Sg)(c:Sg->Prop)(a:aC->Sg->Prop):Prop:=(lw P N).t nm σ (wG s) λb ah=>aE b (mD P N nm mt m ah (sO s) a) (c ah)
inductive NN{X:Type}(st:X->Sg)(inv:Nat->X->Prop)(n:Nat)(S:St):Prop
 |mk (x:X) (s:aN (st x) S) (i:inv n x)
def gZ{X:Type}(st:X->Sg)(inv:Nat->X->Prop)(Q:aC->Sg->Prop)(i:Nat)(o:aC)(σ:Sg):Prop:=match o with
 | .next=>∃x',inv (i+1) x'/\σ=st x'
 | .ret v=>Q (.ret v) σ
inductive uL(G:aK)(d:Nat)(Γ:Fm)(nm:NM)(s:aW)(rest:List aW)(Q:aC->Sg->Prop)(k:K)(xs:List k.D)(ah:Sg):Prop
 |mk (X:Type) (st:X->Sg) (inv:Nat->X->Prop) (h0: ∃x0,inv 0 x0/\ah=st x0)
  (step: ∀i a x,xs[i]? =some a->inv i x->∃Qb:Sg->Prop,mx nm (st x) (my s) (k.toV a) Qb/\∀σ2,Qb σ2->WS G d Γ σ2 (fz s) (gZ st inv Q i)) (fin: ∀x,inv xs.length x->WS G d Γ (st x) rest Q)
theorem WS.forrG{P:bK}{D N:Nat}(f:bU G P D)(hd:D<=d){nm:NM}(hn:Γ.env.scope.names=nm){s:aW}(l:r8 s=true){rest:List aW}{σ:Sg}{Q:aC->Sg->Prop}
  {Qi:(k:K)->List k.D->Sg->Prop} (h:jN (lw P N) nm σ (my s) (pd s) Qi) (hq: ∀k xs ah,Qi k xs ah->uL G d Γ nm s rest Q k xs ah):WS G d Γ σ (s::rest) Q:=by
 refine WS.cons λS hs=>?_
 obtain⟨p,pos,es⟩:=Wz l
 rw[es]
 refine Ex.forS p (ck.mono' (sR f (o9 f N) hd hn hs h) λbl S1 w=>?_)
 refine aj λb=>?_
 obtain⟨k,xs,ah,e,s1,q⟩:=w
 obtain⟨X,st,inv,⟨x0,g,e0⟩,step,fin⟩:=hq k xs ah q
 refine b ?_
 rw[e0]at s1
 rw[e]
 refine⟨NN st inv,⟨x0,s1,g⟩,λi t S c w=>?_,λS w=>?_⟩
 ·obtain⟨x,s,ii⟩:=w
  rw[jd]at c
  refine aj λb=>?_
  obtain⟨a,ha,m⟩:=lX.mp c
  obtain⟨Qb,hb,hq⟩:=step i a x ha ii
  obtain⟨S2,σ2,hb,s2,q⟩:=sP hn s hb
  refine b ?_
  rw[K.vt,m]at hb
  refine⟨S2,hb,(hq σ2 q S2 s2).mono λo S3 w=>?_⟩
  refine aj λb=>?_
  obtain⟨ov,r,n,s3,q⟩:=w
  refine b ?_
  rw[n]
  induction ov with
  |next=>
   obtain⟨x',j,ex⟩:=q
   rw[ex]at s3
   exact⟨λz_=>⟨x',s3,j⟩,(λt e=>nomatch e)⟩
  |ret v=>exact⟨(λe=>nomatch e),λt e=>cC.retInj e▸⟨.ret v,r,rfl,s3,q⟩⟩
 ·obtain⟨x,s,ii⟩:=w
  rw[bi]at ii
  exact⟨.next,st x,rfl,s,fin x ii⟩
def Bq(P:bK)(N:Nat)(nm:NM)(mt:List ag)(m:Nat)(s:aW)(σ:Sg)(v:V)(a:aC->Sg->Prop):Prop:=mx nm σ (my s) v λσ2=>mD P N nm mt m σ2 (fz s) a
theorem xX{P:bK}{D N:Nat}(b:bU G P D)(hd:D<=d){nm:NM}{mt:List ag}{m:Nat}(hn:Γ.env.scope.names=nm){s:aW}{σ:Sg}{v:V}{a:aC->Sg->Prop}(h:Bq P N nm mt m s σ v a): ∃Qb:Sg->Prop,mx nm σ (my s) v Qb/\∀σ2,Qb σ2->WS G d Γ σ2 (fz s) a:=
 ⟨_,h,λσ2 q=>bW b hd hn q⟩
noncomputable def uF(o:Option V):Sl:=match o with
 |some v=>.val v
 |none=>.any
noncomputable def gG(df:kd)(vs:List V):Sg:=⟨(fh df.scope.names).map λx=>(x,uF (((df.params.args.map (·.arg)).zip vs).lookup x)),(eU df.scope.names).map λx=>(x,uF (((df.params.args.map (·.arg)).zip vs).lookup x))⟩
theorem RX{ps:List ag}{x:ag}: ∀{vs:List V},(ps.zip (vs.map V.t)).lookup x=((ps.zip vs).lookup x).map V.t:=by
 induction ps with
 |nil=>intro vs;rfl
 |cons p ps a=>
  intro vs
  induction vs with
  |nil=>rfl
  |cons v vs=>
   simp only[gr,E2,E2,j7,j7]
   cases x==p with
   |true=>rfl
   |false=>exact a
theorem IW{ps:List ag}{vs:List V}(x:ag):fg (uF ((ps.zip vs).lookup x)) (eE (ps.zip (vs.map V.t)) x):=by
 unfold eE
 rw[RX]
 cases(ps.zip vs).lookup x with
 |none=>exact .any
 |some v=>exact .val rfl
theorem Dw{ps:List ag}{vs:List V}: ∀(xs:List ag),dJ (xs.map λx=>(x,uF ((ps.zip vs).lookup x))) (xs.map λx=>(x,eE (ps.zip (vs.map V.t)) x))
 | []=>.nil
 |x::xs=>.cons (IW x) (Dw xs)
def aB(Q:V->Prop)(o:aC)(σ:Sg):Prop:=match o with
 | .ret v=>Q v
 | .next=>Q .no
theorem Qr(df:kd)(vs:List V):aN (gG df vs) ⟨wD df.scope.names ((df.params.args.map λa:Fw=>a.arg).zip (vs.map V.t)),uC df.scope.names ((df.params.args.map λa:Fw=>a.arg).zip (vs.map V.t))⟩:=by
 constructor
 ·exact Dw (ps:=df.params.args.map λa:Fw=>a.arg) (vs:=vs) (fh df.scope.names)
 ·exact Dw (ps:=df.params.args.map λa:Fw=>a.arg) (vs:=vs) (eU df.scope.names)
theorem J5{df:kd}{vs:List V}{Q:V->Prop}(hm:df∈jW G.p)(hb:oK df)(hg:nc df=true)(hl:vs.length=df.params.args.length)(h: ∀Γ:Fm,Γ.env.scope=df.scope->WS G d Γ (gG df vs) df.body (aB Q)):gh G (d+1) df.name (vs.map V.t) (CP Q):=by
 refine gh.ofDef hm hb hg (by simp only[bi,hl]) λΓ a=>(h Γ a _ (Qr df vs)).mono λo S' w=>?_
 obtain⟨ov,σ,e,s,q⟩:=w
 subst e
 induction ov with
 |next=>exact⟨.none,.inr ⟨rfl,rfl⟩,.no,rfl,q⟩
 |ret v=>exact⟨v.t,.inl rfl,v,rfl,q⟩
end
section
noncomputable def O8:aW->Bool
 | .Assign [.Name x _] _ _=>x==("__name__":ag)
 |_=>false
noncomputable def bG:jV:={tT with main:={tT.main with body:=tT.main.body.filter λst=> !O8 st}}
noncomputable def eQ:List ag:=["MOST_DIVIDED","MOST_NUMBERS","MOST_WORK"]
noncomputable def qr:List (ag×WData):=[("MOST_DIVIDED",.int 10000000000),("MOST_NUMBERS",.int 10000000),("MOST_WORK",.int 1000000)]
noncomputable abbrev P2:jV:=tT
noncomputable def Uu:Arguments:=⟨[],[],none,[],[],none,[]⟩
noncomputable def au(i:Nat):kd:=match P2.main.body[i]? with
 |some (.FunctionDef n a b _ _ _ sc _ _ pos)=>⟨n,a,b,sc,pos⟩
 |_=>⟨"",Uu,[],{kind:=.function,names:=[],isGenerator:=false,isCoroutine:=false,more:=[]},default⟩
noncomputable abbrev qL:kd:=au 91
noncomputable abbrev ve:bt->Bool:=λs=>xlAt bG qr s&&recOk (RowW.records rB.row.toRowW) s
set_option maxHeartbeats 16000000
theorem Og:opening tT=plainProg tT.main.scope.names:=by kernel_rfl
theorem Tp: ∀s,fenceModules? tT s=some s:=by intro s;kernel_rfl
noncomputable abbrev Ai(w:n9)(os:OsState):bt:={heap:=boot_heap w.params,gens:=#[],drawn:=boot_drawn,toks:=boot_toks,os:=os}
noncomputable def KF:bn:={cls:=.type "tuple",dict:=none,data:=.seq #[.int 1 653,.int 2 654] 0,slots:=#[]}
noncomputable def IA:bn:={cls:=.type "tuple",dict:=none,data:=.seq #[.int 0 470,.int 1 471] 0,slots:=#[]}
noncomputable def uq(s:bt):=(s.heap.isNs q6,s.heap.nsMap q6 "HALF",s.heap.nsMap q6 "R0",s.heap.get? 350,s.heap.get? 215)
noncomputable def u9:=(true,some (wp 350),some (wp 215),some KF,some IA)
theorem Vw: ∀w os,(topFrom Fx P2 w 5358 (Ai w os)).map (λs=>((seen ((jW bG).map (·.name)) (ownsOf bG) [] {s with gens:=#[]},s.heap.bltView),uq s))=some ((expectedOf bG,bltViewBooted),u9):=by
 intro w os
 unfold topFrom
 rw[XM,XN]
 kernel_rfl
theorem Vh: ∀w os,(topFrom Fx P2 w 5358 (Ai w os)).map (λs=>((s.heap.keysOk (lZ bG eQ) ((jW bG).map (·.name)) ((litsOf bG).map (·.1)) ((clssOf bG (lZ bG eQ)).map (·.name)),s.heap.accountedOkI (MA P2.main.body),s.heap.isNs q6,s.heap.isNs y9),(tablesOk bG s.heap,ve s,s.gens.size==0,tabsOk bG s),(pinSeenD bG (drecsOf bG) s,plainSeenE bG (lZ bG eQ) s,plainSeenD bG eQ s,wideSeen bG s,clsSeenW bG eQ s)))=some ((true,true,true,true),(true,true,true,true),(pinGoodD (drecsOf bG),plainGoodE bG (lZ bG eQ),plainGoodD bG eQ,wideGood bG,clsGoodW bG eQ)):=by
 intro w os
 unfold topFrom
 rw[XM,XN]
 kernel_rfl
def pC(h:bo):Prop:=(∃m,h.Ns q6 m/\m "HALF"=some (.ref 350)/\m "R0"=some (.ref 215))/\h.get? 350=some KF/\h.get? 215=some IA
theorem WG{s:bt}(e:uq s=u9):pC s.heap:=by
 unfold uq u9 at e
 simp only[Prod.mk.injEq]at e
 obtain⟨e1,e2,c,b,a⟩:=e
 exact⟨⟨_,.of_isNs e1,e2,c⟩,b,a⟩
theorem Qc{h h':bo}(x:pC h)(hk: ∀b o,h.get? b=some o->h'.get? b=some o):pC h':=
 let⟨⟨m,a,b,c⟩,e1,e2⟩:=x
 ⟨⟨m,a.keeps hk,b,c⟩,hk _ _ e1,hk _ _ e2⟩
noncomputable def oR:Hook:=⟨_,uq,λa=>u9,λa h=>pC h,λa a e=>WG e,λa a a x k=>Qc x k⟩
theorem left:LeftO P2 bG eQ ve (Hook.obs oR) (Hook.val oR) 5358:=λw=>by
 obtain⟨s,hs,e⟩:=lX.mp (boot_open (N:=5358) Og (by decide) Tp w)
 have p:s=Ai w s.os:=by
  obtain⟨h,g,d,t,o⟩:=s
  simp only[Prod.mk.injEq]at e
  obtain⟨e1,e2,n,m⟩:=e
  subst e1 e2 n m
  rfl
 obtain⟨s1,t1,r1⟩:=lX.mp (Vw w s.os)
 obtain⟨s2,t2,a⟩:=lX.mp (Vh w s.os)
 obtain rfl:s1=s2:=tJ (t1.symm.trans t2)
 have l:openEnds Fx P2 w 5358=some s1:=by
  unfold openEnds
  rw[hs,Option.bind_some,p]
  exact t1
 show Fk (λs=>(openSeen bG eQ (MA P2.main.body) ve true s,Hook.obs oR s)) (openEnds Fx P2 w 5358)=some (openGood bG eQ,Hook.val oR w)
 rw[l,Option.map_some]
 obtain⟨a0,k⟩:=ik r1
 obtain⟨a1,a2⟩:=ik a0
 obtain⟨x,a⟩:=ik a
 obtain⟨c0,d0⟩:=ik a
 obtain⟨v,b2⟩:=ik x
 obtain⟨b2,j⟩:=ik b2
 obtain⟨j,u⟩:=ik j
 obtain⟨c1,c2⟩:=ik c0
 obtain⟨c2,i⟩:=ik c2
 obtain⟨i,r⟩:=ik i
 obtain⟨d1,f⟩:=ik d0
 obtain⟨f,c⟩:=ik f
 obtain⟨c,b⟩:=ik c
 obtain⟨b,q⟩:=ik b
 show some (openSeen bG eQ (MA P2.main.body) ve true s1,uq s1)=some (openGood bG eQ,u9)
 unfold openSeen openGood
 rw[a1,a2,v,b2,j,u,c1,c2,r,d1,f,c,b,q,if_pos rfl,i,k]
 rfl
theorem Re:rB.wellSaid=true:=by
 rw[PySem.W.Fast.te9446332074065402090]
 kernel_rfl
theorem He:(jW bG).find? (λe=>e.name==("law":ag))=some qL:=by kernel_rfl
theorem V9:defOf bG "law"=some (qL,[]):=by
 unfold defOf
 rw[He]
 rfl
theorem OB:P2.theDef "law"=some (qL.params,qL.body,qL.scope):=by kernel_rfl
theorem QZ:(chainsOk bG&&opensWell P2&&(frees rB.row.toRowW&&rB.row.within.isEmpty))=true:=by decide+kernel
theorem AK(call:WalkO bG eQ (XL bG qr) (λb h=>pC h) rB.row.toRowW qL [] λf vs=>fU f vs):rB.Holds:=by
 w_on
 refine holds_law Re λa=>?_
 refine holds_open (q:=bG) (loose:=eQ) (Xt:=ve) (XP:=XL bG qr) (Yf:=Hook.obs oR) (Ya:=Hook.val oR) (YP:=λb h=>pC h) (N:=5358)
  left (Hook.of oR) (Hook.keeps oR) (λs e=>xl_of s (q9.mp e).1) XL.keeps V9 OB (by kernel_rfl) (λs e=>recFacts_of (q9.mp e).2) (by rfl) a QZ ⟨rfl,rfl,rfl,rfl,rfl,by decide+kernel⟩ ?hw call
 case hw=>w_witness2
end
section
variable {G:aK} {d:Nat} {Γ:Fm} {S:St}
noncomputable abbrev ix(x:ag)(i:Nat):ag×Nat:=(x,i)
noncomputable def nj:List (ag×Nat):=[ix "gcd" 3,ix "gcd_all" 4,ix "least_divisor" 5,ix "prime_factors" 6,ix "divisors" 7,ix "ztrim" 9,ix "zdegree" 10,ix "zlead" 11,ix "zadd" 12,ix "zneg" 13,ix "zsub" 14,ix "zscale" 15,ix "zraise" 16,ix "zmul" 17,ix "zcontent" 18,ix "zdivided" 19,ix "zprimitive" 20,ix "zderive" 21,ix "zat" 22,ix "zshift" 23,ix "check_bottom" 25,ix "zexact" 26,ix "pseudo" 27,ix "zpseudo_rest" 28,ix "divided" 30,ix "full_rest" 31,ix "row_resultant" 32,ix "resultant" 33,ix "rat" 36,ix "radd" 37,ix "rsub" 38,ix "rmul" 39,ix "rcompare" 40,ix "rfloor" 41,ix "next_height" 43,ix "subresultants" 44,ix "zgcd" 45,ix "sign_of" 47,ix "value_sign" 48,ix "end_sign" 49,ix "sign_at" 50,ix "simple_part" 51,ix "lessened" 52,ix "next_of_row" 53,ix "sturm_row" 54,ix "changes_at" 55,ix "count_by_row" 56,ix "root_bound" 57,ix "middle" 61,ix "linear_of" 62,ix "is_inside" 63,ix "split_roots" 64,ix "isolate" 65,ix "kept_off" 66,ix "sorted_intervals" 67,ix "halved" 68,ix "refine" 69,ix "rational_roots" 70,ix "tried_roots" 71,ix "candidates" 72,ix "sorted_roots" 73,ix "first_differences" 79,ix "zeros_on" 80,ix "told_by" 81,ix "whole_zeros" 82,ix "roots_within" 83,ix "dispersions" 84,ix "_law_take" 86,ix "_law_root" 87,ix "_law_times" 88,ix "_law_value" 89,ix "_law_places_right" 90]
noncomputable def G6(f:ag):Option kd:=(jW bG).find? λd=>d.name==f
theorem Xh:(nj.map λp=>G6 p.1)=nj.map λp=>some (au p.2):=by kernel_rfl
theorem Ol:(nj.all λp=>nc (au p.2))=true:=by decide+kernel
def vb:List Nat->Prop
 | []=>True
 |i::is=>oK (au i)/\vb is
theorem vb.at: ∀{is:List Nat} {i:Nat},vb is->i∈is->oK (au i)
 |_::_,_,h,.head _=>h.1
 |_::_,_,h,.tail _ m=>vb.at h.2 m
theorem GM:vb (91::nj.map (·.2)):=⟨λa a a a=>by kernel_rfl,λa a a a a=>by kernel_rfl,λa a a a=>by kernel_rfl,λa a a a a=>by kernel_rfl,λa a a a=>by kernel_rfl,λa a a a=>by kernel_rfl,λa a a a=>by kernel_rfl,λa a a a=>by kernel_rfl,λa a a a=>by kernel_rfl,λa a a a a=>by kernel_rfl,λa a a a=>by kernel_rfl,λa a a a a=>by kernel_rfl,λa a a a a=>by kernel_rfl,λa a a a a=>by kernel_rfl,λa a a a a=>by kernel_rfl,λa a a a=>by kernel_rfl,λa a a a a=>by kernel_rfl,λa a a a=>by kernel_rfl,λa a a a=>by kernel_rfl,λa a a a a=>by kernel_rfl,λa a a a a=>by kernel_rfl,λa a a a=>by kernel_rfl,λa a a a a=>by kernel_rfl,λa a a a a=>by kernel_rfl,λa a a a a=>by kernel_rfl,λa a a a a=>by kernel_rfl,λa a a a a=>by kernel_rfl,λa a a a a a=>by kernel_rfl,λa a a a a=>by kernel_rfl,λa a a a a=>by kernel_rfl,λa a a a a=>by kernel_rfl,λa a a a a=>by kernel_rfl,λa a a a a=>by kernel_rfl,λa a a a a=>by kernel_rfl,λa a a a=>by kernel_rfl,λa a a a a a=>by kernel_rfl,λa a a a a=>by kernel_rfl,λa a a a a=>by kernel_rfl,λa a a a=>by kernel_rfl,λa a a a a=>by kernel_rfl,λa a a a a=>by kernel_rfl,λa a a a a=>by kernel_rfl,λa a a a=>by kernel_rfl,λa a a a=>by kernel_rfl,λa a a a a=>by kernel_rfl,λa a a a=>by kernel_rfl,λa a a a a=>by kernel_rfl,λa a a a a a=>by kernel_rfl,λa a a a=>by kernel_rfl,λa a a a a=>by kernel_rfl,λa a a a=>by kernel_rfl,λa a a a a=>by kernel_rfl,λa a a a=>by kernel_rfl,λa a a a=>by kernel_rfl,λa a a a a a=>by kernel_rfl,λa a a a=>by kernel_rfl,λa a a a a=>by kernel_rfl,λa a a a a a=>by kernel_rfl,λa a a a=>by kernel_rfl,λa a a a=>by kernel_rfl,λa a a a=>by kernel_rfl,λa a a a=>by kernel_rfl,λa a a a=>by kernel_rfl,λa a a a a=>by kernel_rfl,λa a a a=>by kernel_rfl,λa a a a a=>by kernel_rfl,λa a a a=>by kernel_rfl,λa a a a a=>by kernel_rfl,λa a a a a=>by kernel_rfl,λa a a a a=>by kernel_rfl,λa a a a a=>by kernel_rfl,λa a a a a=>by kernel_rfl,λa a a a a=>by kernel_rfl,trivial⟩
structure Dg(G:aK)(f:ag)(i:Nat):Prop where
 mem:au i∈jW G.p
 name:(au i).name=f
 good:nc (au i)=true
 bind:oK (au i)
theorem J8(hp:G.p=bG){f:ag}{i:Nat}(h:nj.lookup f=some i):Dg G f i:=by
 have hm:=mem_of_lookup h
 have e:G6 f=some (au i):=List.map_inj_left.mp Xh (f,i) hm
 refine⟨(hp).symm▸XO e,?_,zq.mp Ol (f,i) hm,GM.at (.tail _ (bF.mpr ⟨_,hm,rfl⟩))⟩
 have :=List.find?_some e
 simpa using this
theorem Dg.fn{f:ag}{i:Nat}(h:Dg G f i):rN G f:=by
 obtain⟨a,o,pm,code,doc,ha,ho,hd,_⟩:=G.top.fn _ h.mem
 rw[h.name]at ha
 exact⟨a,o,_,ha,ho,hd⟩
noncomputable abbrev aM:=List V->(V->Prop)->Prop
noncomputable abbrev cp:=List (ag×aM)
noncomputable def yr(x:ag):Option V:=bif x==("MOST_WALKED":ag)then some (.i 1000)else bif x==("MOST_TOLD":ag)then some (.i 40)else bif x==("MOST_NUMBERS":ag)then some (.i 10000000)else bif x==("MOST_WORK":ag)then some (.i 1000000)else bif x==("MOST_DIVIDED":ag)then some (.i 10000000000)else bif x==("HALF":ag)then some (rV (1,2))else bif x==("R0":ag)then some (rV (0,1))else none
noncomputable def cy(sp:cp):bK:=⟨λf=>(sp.lookup f).isSome,λf vs Q=>match sp.lookup f with
 |some s=>s vs Q
 |none=>False,λa a a=>False,yr⟩
def ao(G:aK)(D:Nat)(f:ag)(s:aM):Prop:=rN G f/\∀vs Q d,s vs Q->D<=d->gh G d f (vs.map V.t) (CP Q)
def aG(G:aK)(D:Nat)(sp:cp):Prop:=∀p∈sp,ao G D p.1 p.2
noncomputable def C8(x:ag):Bool:= !(startupNames.contains x)&& !((lZ bG eQ).contains x)&& !(((jW bG).map (·.name)).contains x)&& !(((litsOf bG).map (·.1)).contains x)&& !(((clssOf bG (lZ bG eQ)).map (·.name)).contains x)
theorem Tu{x:ag}{v:an}{h:bo}{mg mb:ag->Option an}(T:qn bG (lZ bG eQ) mg mb h)(hf:C8 x=true)(hn:x≠"__name__")(hb:L6 x=some v):mg x=none/\mb x=some v:=by
 simp only[C8,cO,zo,Mk,decide_eq_false_iff_not]at hf
 refine aj λa=>?_
 obtain⟨⟨⟨⟨h1,h2⟩,h3⟩,h4⟩,h5⟩:=hf
 refine a ?_
 exact⟨T.free x h1 h2 h3 h4 h5,by rw[T.builtins x hn];exact hb⟩
noncomputable def yb:List (ag×an):=[("len",.builtin "len"),("abs",.builtin "abs"),("max",.builtin "max"),("min",.builtin "min"),("list",.type "list"),("range",.type "range"),("reversed",.type "reversed"),("enumerate",.type "enumerate"),("sorted",.builtin "sorted"),("isinstance",.builtin "isinstance"),("any",.builtin "any"),("sum",.builtin "sum"),("dict",.type "dict"),("str",.type "str")]
theorem Tq:(yb.all λp=>C8 p.1&& !(p.1==("__name__":ag)))=true:=by decide+kernel
theorem Vt:(yb.map λp=>L6 p.1)=yb.map λp=>some p.2:=by kernel_rfl
structure aP(G:aK):Prop where
 p:G.p=bG
 blt: ∀x v,(x,v)∈yb->cI G x v
 glob: ∀x v,yr x=some v->∃w,cI G x w/\∀H:PM,(∀a o,G.hB.get? a=some o->H a=some o)->VR H v.t w
theorem aP.prg(B:aP G){sp:cp}{D:Nat}(h:aG G D sp):bU G (cy sp) D where
 fns:=λf hf=>by
  obtain⟨s,e⟩:=or.mp (show(sp.lookup f).isSome=true from hf)
  exact(h (f,s) (mem_of_lookup e)).1
 spec:=λf vs Q d hs hd=>by
  cases e:sp.lookup f with
  |none=>exact absurd hs (by show ¬ (match sp.lookup f with |some s=>s vs Q|none=>False);rw[e];exact id)
  |some s=>
   have hs:s vs Q:=by
    have :(match sp.lookup f with |some s=>s vs Q|none=>False):=hs
    rw[e]at this;exact this
   exact(h (f,s) (mem_of_lookup e)).2 vs Q d hs hd
 specB:=λf vs Q d bs h=>h.elim
 glob:=B.glob
 len:=B.blt _ _ (.head _)
 abs:=B.blt _ _ (.tail _ (.head _))
 max:=B.blt _ _ (.tail _ (.tail _ (.head _)))
 min:=B.blt _ _ (.tail _ (.tail _ (.tail _ (.head _))))
 list:=B.blt _ _ (.tail _ (.tail _ (.tail _ (.tail _ (.head _)))))
 range:=B.blt _ _ (.tail _ (.tail _ (.tail _ (.tail _ (.tail _ (.head _))))))
 rev:=B.blt _ _ (.tail _ (.tail _ (.tail _ (.tail _ (.tail _ (.tail _ (.head _)))))))
 enum:=B.blt _ _ (.tail _ (.tail _ (.tail _ (.tail _ (.tail _ (.tail _ (.tail _ (.head _))))))))
 sum:=B.blt _ _ (.tail _ (.tail _ (.tail _ (.tail _ (.tail _ (.tail _ (.tail _ (.tail _ (.tail _ (.tail _ (.tail _ (.head _))))))))))))
 any:=B.blt _ _ (.tail _ (.tail _ (.tail _ (.tail _ (.tail _ (.tail _ (.tail _ (.tail _ (.tail _ (.tail _ (.head _)))))))))))
 sorted:=B.blt _ _ (.tail _ (.tail _ (.tail _ (.tail _ (.tail _ (.tail _ (.tail _ (.tail _ (.head _)))))))))
 isin:=B.blt _ _ (.tail _ (.tail _ (.tail _ (.tail _ (.tail _ (.tail _ (.tail _ (.tail _ (.tail _ (.head _))))))))))
 dict:=B.blt _ _ (.tail _ (.tail _ (.tail _ (.tail _ (.tail _ (.tail _ (.tail _ (.tail _ (.tail _ (.tail _ (.tail _ (.tail _ (.head _)))))))))))))
 str:=B.blt _ _ (.tail _ (.tail _ (.tail _ (.tail _ (.tail _ (.tail _ (.tail _ (.tail _ (.tail _ (.tail _ (.tail _ (.tail _ (.tail _ (.head _))))))))))))))
inductive w4(G:aK)(i:Nat)(sp:cp)(D:Nat)(vs:List V)(Q:V->Prop):Prop
 |mk (hl:vs.length=(au i).params.args.length) (h: ∀d (Γ:Fm),D<=d->bU G (cy sp) D->Γ.env.scope=(au i).scope->WS G d Γ (gG (au i) vs) (au i).body (aB Q))
theorem eD(B:aP G){f:ag}{i:Nat}{s:aM}{D:Nat}{sp:cp}(hi:nj.lookup f=some i)(a:aG G D sp)
  (h: ∀vs Q,s vs Q->w4 G i sp D vs Q):ao G (D+1) f s:=by
 have hd:=J8 B.p hi
 refine⟨hd.fn,λvs Q d hs hD=>?_⟩
 obtain⟨d,rfl⟩: ∃e,d=e+1:=⟨d-1,by lia⟩
 obtain⟨hl,hw⟩:=h vs Q hs
 rw[← hd.name]
 exact J5 hd.mem hd.bind hd.good hl λΓ b=>hw d Γ (by lia) (B.prg a) b
theorem ao.mono{D D':Nat}{f:ag}{s:aM}(h:ao G D f s)(hd:D<=D'):ao G D' f s:=⟨h.1,λvs Q d hs hD=>h.2 vs Q d hs (by lia)⟩
theorem aG.cons{D:Nat}{f:ag}{s:aM}{sp:cp}(h:ao G D f s)(ha:aG G D sp):aG G D ((f,s)::sp):=λp hp=>by
 rcases bz.mp hp with rfl|hp
 ·exact h
 ·exact ha p hp
theorem aG.mono{D D':Nat}{sp:cp}(h:aG G D sp)(hd:D<=D'):aG G D' sp:=λp hp=>(h p hp).mono hd
theorem l4{α:Type}{C:List α->Prop}(h0:C [])(h1: ∀a,C [a])(h2: ∀a b,C [a,b])(h3: ∀a b c,C [a,b,c])(h4: ∀a b c d,C [a,b,c,d])(h5: ∀a b c d e t,C (a::b::c::d::e::t)): ∀l,C l
 | []=>h0
 | [_]=>h1 _
 | [_,_]=>h2 _ _
 | [_,_,_]=>h3 _ _ _
 | [_,_,_,_]=>h4 _ _ _ _
 |_::_::_::_::_::_=>h5 _ _ _ _ _ _
end
section
variable {G:aK} {d:Nat} {Γ:Fm} {S:St}
def a1(f:V->Prop)(vs:List V):Prop:=match vs with
 | [v]=>f v
 |_=>False
def a2(f:V->V->Prop)(vs:List V):Prop:=match vs with
 | [v,w]=>f v w
 |_=>False
def a3(f:V->V->V->Prop)(vs:List V):Prop:=match vs with
 | [v,w,u]=>f v w u
 |_=>False
theorem CC{a b:Int}(h:b<a)(ha:0<a):b.toNat<a.toNat:=(Int.toNat_lt_toNat ha).mpr h
theorem U9{f:V->Prop}{vs:List V}(h:a1 f vs): ∃v,vs=[v]/\f v:=by
 match vs,h with
 | [v],h=>exact⟨v,rfl,h⟩
 | [],h=>exact h.elim
 |_::_::_,h=>exact h.elim
theorem cu{f:V->Prop}{vs:List V}{C:List V->Prop}(h:a1 f vs)(c: ∀v,f v->C [v]):C vs:=by
 obtain⟨v,rfl,q⟩:=U9 h;exact c v q
theorem Jf{f:V->V->Prop}{vs:List V}(h:a2 f vs): ∃v w,vs=[v,w]/\f v w:=by
 match vs,h with
 | [v,w],h=>exact⟨v,w,rfl,h⟩
 | [],h=>exact h.elim
 | [_],h=>exact h.elim
 |_::_::_::_,h=>exact h.elim
theorem bI{f:V->V->Prop}{vs:List V}{C:List V->Prop}(h:a2 f vs)(c: ∀v w,f v w->C [v,w]):C vs:=by
 obtain⟨v,w,rfl,q⟩:=Jf h;exact c v w q
theorem O0{f:V->V->V->Prop}{vs:List V}(h:a3 f vs): ∃v w u,vs=[v,w,u]/\f v w u:=by
 match vs,h with
 | [v,w,u],h=>exact⟨v,w,u,rfl,h⟩
 | [],h=>exact h.elim
 | [_],h=>exact h.elim
 | [_,_],h=>exact h.elim
 |_::_::_::_::_,h=>exact h.elim
theorem mY{f:V->V->V->Prop}{vs:List V}{C:List V->Prop}(h:a3 f vs)(c: ∀v w u,f v w u->C [v,w,u]):C vs:=by
 obtain⟨v,w,u,rfl,q⟩:=O0 h;exact c v w u q
def bq(v:V)(k:List Int->Prop):Prop:=match v.asL with
 |some xs=>k xs
 |none=>False
def du(v:V)(k:Int×Int->Prop):Prop:=match v.asR with
 |some x=>k x
 |none=>False
theorem sF{v:V}{k:List Int->Prop}(h:bq v k): ∃xs,v= .l .I xs/\k xs:=by
 unfold bq at h
 cases e:v.asL with
 |none=>rw[e]at h;exact h.elim
 |some xs=>rw[e]at h;exact⟨xs,V.asL_eq e,h⟩
theorem bL{v:V}{k:List Int->Prop}{C:V->Prop}(h:bq v k)(c: ∀xs,k xs->C (.l .I xs)):C v:=by
 obtain⟨xs,rfl,q⟩:=sF h;exact c xs q
theorem Gi{v:V}{k:Int×Int->Prop}(h:du v k): ∃x,v=rV x/\k x:=by
 unfold du at h
 cases e:v.asR with
 |none=>rw[e]at h;exact h.elim
 |some xs=>rw[e]at h;exact⟨xs,V.asR_eq e,h⟩
theorem dY{v:V}{k:Int×Int->Prop}{C:V->Prop}(h:du v k)(c: ∀x,k x->C (rV x)):C v:=by
 obtain⟨xs,rfl,q⟩:=Gi h;exact c xs q
theorem dI{v:V}{k:Int->Prop}{C:V->Prop}(h:br v k)(c: ∀x,k x->C (.i x)):C v:=by
 obtain⟨xs,rfl,q⟩:=fy h;exact c xs q
theorem PA{D:Nat}{sp:cp}{i:Nat}{mt:List ag}{m:Nat}{vs:List V}{Q:aC->Sg->Prop}(a:bU G (cy sp) D)(hd:D<=d)(b:Γ.env.scope=(au i).scope)(h:mD (cy sp) 20 (au i).scope.names mt m (gG (au i) vs) (au i).body Q):WS G d Γ (gG (au i) vs) (au i).body Q:=bW a hd (by rw[b]) h
inductive SE(i:Nat)(sp:cp)(mt:List ag)(vs:List V)(Q:V->Prop):Prop
 |mk (hl:vs.length=(au i).params.args.length) (h:mD (cy sp) 20 (au i).scope.names mt 4 (gG (au i) vs) (au i).body (aB Q))
theorem bJ(B:aP G){f:ag}{i:Nat}{s:aM}{D:Nat}{sp:cp}(mt:List ag)(hi:nj.lookup f=some i)(a:aG G D sp)
  (h: ∀vs Q,s vs Q->SE i sp mt vs Q):ao G (D+1) f s:=
 eD B hi a λvs Q hs=>by
  obtain⟨hl,h⟩:=h vs Q hs
  exact⟨hl,λd Γ hd b c=>PA b hd c h⟩
abbrev gd(i:Nat)(sp:cp)(mt:List ag)(vs:List V)(Q:aC->Sg->Prop):Prop:=mD (cy sp) 20 (au i).scope.names mt 4 (gG (au i) vs) (au i).body Q
noncomputable abbrev sL:cp:=[]
def cZ:aM:=λvs Q=>a1 (λv=>bq v λp=>Q (.i ((p.length:Int)-1))) vs
theorem Sp(B:aP G):ao G 1 "zdegree" cZ:=bJ B (i:=10) (D:=0) (sp:=sL) [] (by kernel_rfl) (λp h=>nomatch h) λvs Q h=>by
 apply cu h;intro v ha
 apply bL ha;intro p hq
 exact⟨rfl,bP (α:=gd 10 sL [] [.l .I p] (aB Q)) (β:=Q (V.i ((aR p:Int)-1))) (by kernel_rfl) hq⟩
def lq:aM:=λvs Q=>a1 (λv=>bq v λp=>p.length<=1000000/\Q (.l .I (p.map λx=> -x))) vs
theorem Rw(B:aP G):ao G 1 "zneg" lq:=bJ B (i:=13) (D:=0) (sp:=sL) [] (by kernel_rfl) (λp h=>nomatch h) λvs Q h=>by
 apply cu h;intro v ha
 apply bL ha;intro p a
 obtain⟨h1,h2⟩:=a
 refine⟨rfl,bP (α:=gd 13 sL [] [.l .I p] (aB Q)) (β:=aR p<=1000000/\∃F:Int->Int,(∀(x:K.D K.I),x∈p->K.of K.I (V.i (-x))=some (F x)/\([]:SL)=[])/\Q (V.l K.I (bS F p))) (by kernel_rfl) ⟨h1,λx=> -x,λx hx=>⟨rfl,rfl⟩,h2⟩⟩
def xC:aM:=λvs Q=>a2 (λv w=>bq v λp=>br w λk=>(p.length<=1000000/\∀x∈p,aq x k=true)/\Q (.l .I (if k=0 then []else p.map λx=>x*k))) vs
theorem OM(B:aP G):ao G 1 "zscale" xC:=bJ B (i:=15) (D:=0) (sp:=sL) [] (by kernel_rfl) (λp h=>nomatch h) λvs Q h=>by
 apply bI h;intro v w ha
 apply bL ha;intro p hb
 apply dI hb;intro k a
 refine aj λb=>?_
 obtain⟨⟨h1,h3⟩,h2⟩:=a
 refine b ?_
 refine⟨rfl,bP (α:=gd 15 sL [] [.l .I p,.i k] (aB Q)) (β:=aE (k !=0) (aR p<=(1000000:Nat)/\∃F:Int->Int,(∀(x:K.D K.I),x∈p->aq x k=true/\K.of K.I (V.i (x*k))=some (F x)/\[(al "k",Sl.val (V.i k))]=[(al "k",Sl.val (V.i k))])/\Q ((V.l K.I (bS F p)))) (Q (V.l K.I []))) (by kernel_rfl) (cw (λe=>⟨h1,λx=>x*k,λx hx=>⟨h3 x hx,rfl,rfl⟩,?_⟩) (λe=>?_))⟩
 ·rw[if_neg (by simpa using e)]at h2;exact h2
 ·rw[if_pos (by simpa using e)]at h2;exact h2
end
section
variable {G:aK} {d:Nat} {Γ:Fm} {S:St}
theorem Ck{α:Type} [Inhabited α]{l:List α}{x0:α}(h:l≠ []):cg l (-1)=some (l.getLastD x0):=by
 unfold cg
 have :0<l.length:=rC.mpr h
 rw[if_neg (by lia),if_pos (by lia)]
 have e:(-1+(l.length:Int)).toNat=l.length-1:=by rw[zQ];exact zR l.length 1
 simp only[e,kT (by omega)]
 simp[wq,XQ,kT (show l.length-1<l.length by omega)]
theorem Hb{p:List Int}(e:decide ((p.length:Int)>0)=true):p≠ []:=by
 intro h;subst h;simp at e
theorem HP{p:List Int}(e:decide ((p.length:Int)>0)=false):p=[]:=by
 have :=of_decide_eq_false e
 exact Fy (by lia)
theorem JH(n:Nat):(gP n [(0:Int)]).flatten=gP n 0:=by
 induction n with
 |zero=>rfl
 |succ n a=>simp only[Fc,zw,a];rfl
def qm:aM:=λvs Q=>a2 (λv0 v1=>du v0 λa=>du v1 λc=>(aq a.1 c.2=true/\aq c.1 a.2=true)/\Q (.i (b2 (decide (a.1*c.2-c.1*a.2>0))-b2 (decide (a.1*c.2-c.1*a.2<0))))) vs
theorem UH(B:aP G):ao G 1 "rcompare" qm:=bJ B (i:=40) (D:=0) (sp:=[]) [] (by kernel_rfl) (λp h=>nomatch h) λvs Q h=>by
 apply bI h;intro v0 v1 h0
 apply dY h0;intro a h1
 apply dY h1;intro c b
 obtain⟨hp,hq⟩:=b
 refine⟨rfl,bP (α:=gd 40 [] [] [(rV a),(rV c)] (aB Q)) (β:=aq a.1 c.2=true/\aq c.1 a.2=true/\Q (V.i (b2 (decide (ai a*ak c-ai c*ak a>(0:Int)))-b2 (decide (ai a*ak c-ai c*ak a< (0:Int)))))) (by kernel_rfl) ?_⟩
 exact⟨hp.1,hp.2,hq⟩
def A7:aM:=λvs Q=>a1 (λv0=>du v0 λa=>(a.2≠0/\bk a.2 8000=true)/\Q (.i (a.1.fdiv a.2))) vs
theorem Xa(B:aP G):ao G 1 "rfloor" A7:=bJ B (i:=41) (D:=0) (sp:=[]) [] (by kernel_rfl) (λp h=>nomatch h) λvs Q h=>by
 apply cu h;intro v0 h0
 apply dY h0;intro a b
 obtain⟨hp,hq⟩:=b
 refine⟨rfl,bP (α:=gd 41 [] [] [(rV a)] (aB Q)) (β:=(ak a≠(0:Int)/\bk a.2 (8000:Nat)=true)/\Q (V.i (bg a.1 a.2))) (by kernel_rfl) ?_⟩
 exact⟨hp,hq⟩
def jG:aM:=λvs Q=>a1 (λv0=>br v0 λn=>Q (.i (b2 (decide (n>0))-b2 (decide (n<0))))) vs
theorem N9(B:aP G):ao G 1 "sign_of" jG:=bJ B (i:=47) (D:=0) (sp:=[]) [] (by kernel_rfl) (λp h=>nomatch h) λvs Q h=>by
 apply cu h;intro v0 h0
 apply dI h0;intro n hq
 refine⟨rfl,bP (α:=gd 47 [] [] [(.i n)] (aB Q)) (β:=Q (V.i (b2 (decide (n>(0:Int)))-b2 (decide (n< (0:Int)))))) (by kernel_rfl) ?_⟩
 exact hq
def se:aM:=λvs Q=>a1 (λv0=>du v0 λx=>Q (.l .I [-x.1,x.2])) vs
theorem Wq(B:aP G):ao G 1 "linear_of" se:=bJ B (i:=62) (D:=0) (sp:=[]) [] (by kernel_rfl) (λp h=>nomatch h) λvs Q h=>by
 apply cu h;intro v0 h0
 apply dY h0;intro x hq
 refine⟨rfl,bP (α:=gd 62 [] [] [(rV x)] (aB Q)) (β:=Q (V.l K.I [-ai x,ak x])) (by kernel_rfl) ?_⟩
 exact hq
def dA:aM:=λvs Q=>a1 (λv0=>bq v0 λp=>Q (.i (p.getLastD 0))) vs
theorem Uc(B:aP G):ao G 1 "zlead" dA:=bJ B (i:=11) (D:=0) (sp:=[]) [] (by kernel_rfl) (λp h=>nomatch h) λvs Q h=>by
 apply cu h;intro v0 h0
 apply bL h0;intro p hq
 refine⟨rfl,bP (α:=gd 11 [] [] [(.l .I p)] (aB Q)) (β:=aE (decide ((p.length:Int)>(0:Int))) (a9 (cg p (-1:Int)) λx=>Q (V.i x)) (Q (V.i (0:Int)))) (by kernel_rfl) ?_⟩
 exact cw (λe=>sw (Ck (x0:=0) (Hb e)) hq) (λe=>by rw[HP e]at hq;exact hq)
def nL:aM:=λvs Q=>a2 (λv0 v1=>bq v0 λp=>br v1 λk=>((0<=k/\k<=1000)/\p.length<=1000)/\Q (.l .I (if p=[]then []else gP k.toNat 0++p))) vs
theorem UV(B:aP G):ao G 1 "zraise" nL:=bJ B (i:=16) (D:=0) (sp:=[]) [] (by kernel_rfl) (λp h=>nomatch h) λvs Q h=>by
 apply bI h;intro v0 v1 h0
 apply bL h0;intro p h1
 apply dI h1;intro k a
 obtain⟨hp,hq⟩:=a
 refine⟨rfl,bP (α:=gd 16 [] [] [(.l .I p),(.i k)] (aB Q)) (β:=aE (decide ((p.length:Int)>(0:Int))) (((-9223372036854775808:Int)<=k/\k< (9223372036854775808:Int)/\(1:Nat)*bY k<=(16777216:Nat))/\aR (zS (gP k.toNat [(0:Int)]))+aR p<=(16777216:Nat)/\Q (V.l K.I (zS (gP k.toNat [(0:Int)])++p))) (Q (V.l K.I []))) (by kernel_rfl) ?_⟩
 refine cw (λe=>⟨⟨by(first |lia|omega),by(first |lia|omega),by simp;(first |lia|omega)⟩,?_,?_⟩) (λe=>?_)
 ·rw[JH,wr];lia
 ·rw[if_neg (Hb e)]at hq;rw[JH];exact hq
 ·rw[if_pos (HP e)]at hq;exact hq
def jp:aM:=λvs Q=>a1 (λv0=>bq v0 λp=>(p.length<=1000/\∀x∈fZ p,aq x.2 x.1=true)/\Q (.l .I (((fZ p).map λx=>x.2*x.1).drop 1))) vs
theorem Ny(B:aP G):ao G 1 "zderive" jp:=bJ B (i:=21) (D:=0) (sp:=[]) [] (by kernel_rfl) (λp h=>nomatch h) λvs Q h=>by
 apply cu h;intro v0 h0
 apply bL h0;intro p a
 obtain⟨hp,hq⟩:=a
 refine⟨rfl,bP (α:=gd 21 [] [] [(.l .I p)] (aB Q)) (β:=aR (fZ p)<=(1000000:Nat)/\∃F:K.D K.R->K.D K.I,(∀(x:K.D K.R),x∈fZ p->aq x.2 x.1=true/\K.of K.I (V.i (ak x*ai x))=some (F x)/\([]:SL)=[])/\Q (V.l K.I (wn (1:Nat) (bS F (fZ p))))) (by kernel_rfl) ?_⟩
 exact⟨by simp[fZ];lia,λx=>x.2*x.1,λx hx=>⟨hp.2 x hx,rfl,rfl⟩,hq⟩
def ll:aM:=λvs Q=>a2 (λv0 v1=>bq v0 λp=>br v1 λk=>(p.length<=1000000/\k≠0/\bk k 8000=true)/\Q (.l .I (p.map λx=>x.fdiv k))) vs
theorem UX(B:aP G):ao G 1 "zdivided" ll:=bJ B (i:=19) (D:=0) (sp:=[]) [] (by kernel_rfl) (λp h=>nomatch h) λvs Q h=>by
 apply bI h;intro v0 v1 h0
 apply bL h0;intro p h1
 apply dI h1;intro k a
 obtain⟨hp,hq⟩:=a
 refine⟨rfl,bP (α:=gd 19 [] [] [(.l .I p),(.i k)] (aB Q)) (β:=aR p<=(1000000:Nat)/\∃F:K.D K.I->K.D K.I,(∀(x:K.D K.I),x∈p->(k≠(0:Int)/\bk k (8000:Nat)=true)/\K.of K.I (V.i (bg x k))=some (F x)/\[(al "k",Sl.val (V.i k))]=[(al "k",Sl.val (V.i k))])/\Q (V.l K.I (bS F p))) (by kernel_rfl) ?_⟩
 exact⟨hp.1,λx=>x.fdiv k,λx hx=>⟨hp.2,rfl,rfl⟩,hq⟩
def jr:aM:=λvs Q=>a2 (λv0 v1=>bq v0 λp=>br v1 λk=>(p.length<=1000000/\k≠0/\bk k 8000=true)/\Q (.l .I (p.map λx=>x.fdiv k))) vs
theorem S8(B:aP G):ao G 1 "divided" jr:=bJ B (i:=30) (D:=0) (sp:=[]) [] (by kernel_rfl) (λp h=>nomatch h) λvs Q h=>by
 apply bI h;intro v0 v1 h0
 apply bL h0;intro p h1
 apply dI h1;intro k a
 obtain⟨hp,hq⟩:=a
 refine⟨rfl,bP (α:=gd 30 [] [] [(.l .I p),(.i k)] (aB Q)) (β:=aR p<=(1000000:Nat)/\∃F:K.D K.I->K.D K.I,(∀(x:K.D K.I),x∈p->(k≠(0:Int)/\bk k (8000:Nat)=true)/\K.of K.I (V.i (bg x k))=some (F x)/\[(al "number",Sl.val (V.i k))]=[(al "number",Sl.val (V.i k))])/\Q (V.l K.I (bS F p))) (by kernel_rfl) ?_⟩
 exact⟨hp.1,λx=>x.fdiv k,λx hx=>⟨hp.2,rfl,rfl⟩,hq⟩
end
section
variable {G:aK} {d:Nat} {Γ:Fm} {S:St}
noncomputable def lp(l:List aW)(k:Nat):aW:=match l[k]? with
 |some s=>s
 |none=>.Pass default
abbrev sg(i:Nat)(sp:cp)(mt:List ag)(σ:Sg)(l:List aW)(Q:aC->Sg->Prop):Prop:=mD (cy sp) 20 (au i).scope.names mt 4 σ l Q
theorem WS.at_{σ:Sg}{l:List aW}{k:Nat}{Q:aC->Sg->Prop}(hk:l.drop k=lp l k::l.drop (k+1))(h:WS G d Γ σ (l.take k) (qB G d Γ (lp l k::l.drop (k+1)) Q)):WS G d Γ σ l Q:=by
 have :=WS.app h
 simp only[← hk,iJ]at this
 exact this
theorem WS.whP{D:Nat}{sp:cp}{i:Nat}{mt:List ag}{σ:Sg}{l:List aW}{k:Nat}{Q:aC->Sg->Prop}(a:bU G (cy sp) D)(hd:D<=d)(c:Γ.env.scope=(au i).scope)(hk:l.drop k=lp l k::l.drop (k+1))(hw:ux (lp l k)=true)
  {X:Type} (st:X->Sg) (inv:Nat->X->Prop) (n0:Nat) (x0:X) (h1:sg i sp mt σ (l.take k) λo ah=>o= .next/\ah=st x0) (h0:inv n0 x0)
  (step: ∀n x,inv n x->lu (cy sp) 20 (au i).scope.names mt 4 (lp l k) (st x) (λah=>sg i sp mt ah (l.drop (k+1)) Q) (gC st inv Q n)):WS G d Γ σ l Q:=by
 have hn:Γ.env.scope.names=(au i).scope.names:=by rw[c]
 refine WS.at_ hk ((bW a hd hn h1).mono λo ah q=>?_)
 obtain⟨rfl,rfl⟩:=q
 refine WS.whlG a hd hn hw st inv x0 h0 rfl λn x hx=>⟨_,step n x hx,λb ah q=>⟨λe=>bW a hd hn (q.f e),λe=>bW a hd hn (q.t e)⟩⟩
inductive qF(i:Nat)(sp:cp)(mt:List ag)(s:aW)(rest:List aW)(Q:aC->Sg->Prop)(k:K)(xs:List k.D)(ah:Sg):Prop
 |mk (X:Type) (st:X->Sg) (inv:Nat->X->Prop) (x0:X) (h0:inv 0 x0) (e:ah=st x0) (turn: ∀j a x,xs[j]? =some a->inv j x->Bq (cy sp) 20 (au i).scope.names mt 4 s (st x) (k.toV a) (gZ st inv Q j)) (fin: ∀x,inv xs.length x->sg i sp mt (st x) rest Q)
theorem WS.foP{D:Nat}{sp:cp}{i:Nat}{mt:List ag}{σ:Sg}{l:List aW}{k:Nat}{Q:aC->Sg->Prop}(b:bU G (cy sp) D)(hd:D<=d)(c:Γ.env.scope=(au i).scope)(hk:l.drop k=lp l k::l.drop (k+1))(hw:r8 (lp l k)=true)
  (h:sg i sp mt σ (l.take k) λo ah=>match o with
   | .next=>jN (lw (cy sp) 20) (au i).scope.names ah (my (lp l k)) (pd (lp l k)) (qF i sp mt (lp l k) (l.drop (k+1)) Q)
   | .ret v=>Q (.ret v) ah):WS G d Γ σ l Q:=by
 have hn:Γ.env.scope.names=(au i).scope.names:=by rw[c]
 refine WS.at_ hk ((bW b hd hn h).mono λo ah q=>?_)
 induction o with
 |ret v=>exact q
 |next=>
  refine WS.forrG b hd hn hw q λk xs σ2 w=>?_
  obtain⟨X,st,inv,x0,h0,e,turn,fin⟩:=w
  exact⟨X,st,inv,⟨x0,h0,e⟩,λj a x ha hx=>xX b hd hn (turn j a x ha hx),λx hx=>bW b hd hn (fin x hx)⟩
theorem aX{A B:Prop}(e:A=B)(h:B):A:=e▸h
noncomputable def xB(v:SV):Option (Expr×List aW×List aW):=match v with
 | .ifs c x y=>some (c,x,y)
 |_=>none
noncomputable def CW(s:aW):Expr:=(xB (gX s)).elim ya (·.1)
noncomputable def sX(s:aW):List aW:=(xB (gX s)).elim [] (·.2.1)
noncomputable def Ak(s:aW):List aW:=(xB (gX s)).elim [] (·.2.2)
noncomputable def DH(s:aW):Bool:=(xB (gX s)).isSome
theorem OE{s:aW}:DH s=true->∃pos,s= .If (CW s) (sX s) (Ak s) pos:=by
 have hi:=xK s
 unfold DH CW sX Ak
 generalize gX s=v at hi ⊢
 induction hi with
 |ifs=>exact λz_=>⟨_,rfl⟩
 |_=>exact λh=>(rz h).elim
theorem WS.ifsG{P:bK}{D N:Nat}(c:bU G P D)(hd:D<=d){nm:NM}(hn:Γ.env.scope.names=nm){s:aW}(a:DH s=true){rest:List aW}{σ:Sg}{Q:aC->Sg->Prop}{Qt:Bool->Sg->Prop}(h:(lw P N).t nm σ (CW s) Qt)
  (hq: ∀b ah,Qt b ah->(b=true->WS G d Γ ah (sX s) (qB G d Γ rest Q))/\(b=false->WS G d Γ ah (Ak s) (qB G d Γ rest Q))):WS G d Γ σ (s::rest) Q:=by
 obtain⟨pos,es⟩:=OE a
 refine WS.cons λS hs=>?_
 rw[es]
 exact Ex.ifS ((o9 c N).cT hd hn hs h λb ah S1 s1 q=>⟨λe=>(hq b ah q).1 e S1 s1,λe=>(hq b ah q).2 e S1 s1⟩)
theorem WS.foQ{D:Nat}{sp:cp}{i:Nat}{mt:List ag}{σ:Sg}{l:List aW}{k:Nat}{Q:aC->Sg->Prop}(a:bU G (cy sp) D)(hd:D<=d)(b:Γ.env.scope=(au i).scope)(hk:l.drop k=lp l k::l.drop (k+1))(hw:r8 (lp l k)=true)
  {Qi:(k:K)->List k.D->Sg->Prop} (h:sg i sp mt σ (l.take k) λo ah=>match o with
   | .next=>jN (lw (cy sp) 20) (au i).scope.names ah (my (lp l k)) (pd (lp l k)) Qi
   | .ret v=>Q (.ret v) ah) (hq: ∀k' xs ah,Qi k' xs ah->uL G d Γ (au i).scope.names (lp l k) (l.drop (k+1)) Q k' xs ah):WS G d Γ σ l Q:=by
 have hn:Γ.env.scope.names=(au i).scope.names:=by rw[b]
 refine WS.at_ hk ((bW a hd hn h).mono λo ah q=>?_)
 induction o with
 |ret v=>exact q
 |next=>exact WS.forrG a hd hn hw q hq
inductive iN(k:K)(xs:List k.D)(σ:Sg):(k':K)->List k'.D->Sg->Prop
 |mk:iN k xs σ k xs σ
end
section
variable {G:aK} {d:Nat} {Γ:Fm} {S:St}
theorem Vj(a b:Int)(ha:0<=a)(hb:0<b):bp b (a%b)=bp a b:=by
 obtain⟨m,rfl⟩:=mS ha
 obtain⟨n,rfl⟩:=mS (bZ hb)
 show Nat.gcd _ _=Nat.gcd _ _
 rw[← Int.natCast_emod]
 simp only[oz]
 simp only[Nat.gcd_comm m n,Nat.gcd_rec n m,Nat.gcd_comm]
def jB:aM:=λvs Q=>a2 (λv0 v1=>br v0 λa=>br v1 λc=>Q (.i (bp a c))) vs
noncomputable def PH(x:Int×Int):Sg:=⟨[("a",.val (.i x.1)),("b",.val (.i x.2))],[]⟩
def Gp(a c:Int)(n:Nat)(x:Int×Int):Prop:=0<=x.1/\0<=x.2/\x.2.toNat=n/\bp x.1 x.2=bp a c
theorem U8(B:aP G):ao G 1 "gcd" jB:=eD B (i:=3) (D:=0) (sp:=[]) (by kernel_rfl) (λp h=>nomatch h) λvs Q h=>by
 apply bI h;intro v w h0
 apply dI h0;intro a h1
 apply dI h1;intro c hq
 refine⟨rfl,λd Γ hd g j=>WS.whP (i:=3) (mt:=[]) (k:=1) g hd j (by kernel_rfl) (by kernel_rfl) PH (Gp a c) c.natAbs ((a.natAbs:Int),(c.natAbs:Int)) (aX (B:=(aC.next=aC.next/\Sg.mk [("a",.val (.i (↑(cq a):Int))),("b",.val (.i (↑(cq c):Int)))] []=Sg.mk [("a",.val (.i (↑(cq a):Int))),("b",.val (.i (↑(cq c):Int)))] [])) (by kernel_rfl) ⟨rfl,rfl⟩) ⟨by trivial,by trivial,rfl,rfl⟩ λn x hx=>aX (B:=(aE (ak x !=0) (ak x≠0/\∃m x',m<n/\Gp a c m x'/\Sg.mk [("a",.val (.i x.2)),("b",.val (.i (p5 x.1 x.2)))] []=Sg.mk [("a",.val (.i x'.1)),("b",.val (.i x'.2))] []) (Q (V.i x.1)))) (by kernel_rfl) ?_⟩
 obtain⟨x0,x1⟩:=x
 obtain⟨p0,p1,p2,b⟩:=hx
 dsimp only at p0 p1 p2 b ⊢
 refine wc (λe=>?_) (λe=>?_)
 ·have :x1=0:=by simpa using e
  subst this
  have :x0=(bp a c:Int):=by rw[← b];simp;trivial
  rw[this];exact hq
 ·have f:x1≠0:=by simpa using e
  have h1:0<=x0.fmod x1:=MB _ (by trivial)
  have h2:x0.fmod x1<x1:=Fz _ (by trivial)
  refine⟨f,(x0.fmod x1).toNat,(x1,x0.fmod x1),p2▸CC h2 ((Int.le_iff_lt_or_eq.mp p1).resolve_right (ot f)),⟨p1,h1,rfl,?_⟩,rfl⟩
  simp only[← b]
  show bp x1 (x0.fmod x1)=bp x0 x1
  rw[MC _ (by trivial)]
  exact Vj x0 x1 p0 (by trivial)
def Ct:aM:=λvs Q=>a2 (λv0 v1=>bq v0 λp=>br v1 λn=>(∀k,aq ((p.reverse.take k).foldl (λf c=>f*n+c) 0) n=true)/\Q (.i (p.reverse.foldl (λf c=>f*n+c) 0))) vs
noncomputable def Jo(p:List Int)(n:Int)(x:Int×Sl):Sg:=⟨[("p",.val (.l .I p)),("n",.val (.i n)),("found",.val (.i x.1)),("number",x.2)],[]⟩
def Jt(p:List Int)(n:Int)(k:Nat)(x:Int×Sl):Prop:=x.1=(p.reverse.take k).foldl (λf c=>f*n+c) 0
theorem SG(B:aP G):ao G 1 "zat" Ct:=eD B (i:=22) (D:=0) (sp:=[]) (by kernel_rfl) (λp h=>nomatch h) λvs Q h=>by
 apply bI h;intro v w h0
 apply bL h0;intro p h1
 apply dI h1;intro n e
 obtain⟨hp,hq⟩:=e
 refine⟨rfl,λd Γ hd b g=>WS.foP (i:=22) (mt:=[]) (k:=1) b hd g (by kernel_rfl) (by kernel_rfl) (aX (B:=qF 22 [] [] (lp (au 22).body 1) ((au 22).body.drop 2) (aB Q) K.I p.reverse (Jo p n (0,.any))) (by kernel_rfl) ⟨_,Jo p n,Jt p n,(0,.any),rfl,rfl,λj c x a hx=>aX (B:=(aq x.1 n=true/\∃x',Jt p n (j+1) x'/\Sg.mk [("p",.val (.l .I p)),("n",.val (.i n)),("found",.val (.i (ai x*n+c))),("number",.val (.i c))] []=Sg.mk [("p",.val (.l .I p)),("n",.val (.i n)),("found",.val (.i x'.1)),("number",x'.2)] [])) (by kernel_rfl) ?_,λx hx=>aX (B:=(Q (V.i x.1))) (by kernel_rfl) ?_⟩)⟩
 ·obtain⟨x0,x1⟩:=x
  have hx:x0=(p.reverse.take j).foldl (λf c=>f*n+c) 0:=hx
  subst hx
  refine⟨hp j,(_,.val (.i c)),?_,rfl⟩
  show _=(p.reverse.take (j+1)).foldl _ 0
  simp only[gS,a]
  simp[rD]
 ·obtain⟨x0,x1⟩:=x
  have hx:x0=(p.reverse.take p.reverse.length).foldl (λf c=>f*n+c) 0:=hx
  rw[e9 (cR _)]at hx
  subst hx
  exact hq
end
section
variable {G:aK} {d:Nat} {Γ:Fm} {S:St}
noncomputable def aD(l:List Int):Int:=l.foldl (λg x=>(bp g x:Int)) 0
noncomputable def ct(l:List Int):List Int:=(l.reverse.dropWhile (· ==0)).reverse
theorem nJ(l:List Int)(x:Int):ct (l++[x])=if x=0 then ct l else l++[x]:=by
 unfold ct
 rw[List.reverse_append]
 by_cases h:x=0
 ·subst h;simp[List.dropWhile]
 ·have :(x==0)=false:=by simpa using h
  simp[List.dropWhile,this,h]
theorem sH{α:Type}{l:List α}{k:Int}(h0:0<=k):cg l k=l[k.toNat]? :=by unfold cg;rw[if_pos h0]
theorem Hd{α:Type}{l:List α}{s:Nat}{x:α}(h:l[s]? =some x):l.take (s+1)=l.take s++[x]:=by simp only[gS,h];rfl
noncomputable def dT(a b:List Int):List Int:=ct ((kR (max a.length b.length)).map λi=>a.getD i 0+b.getD i 0)
theorem qg{n:Nat}{x:Int}(h:x∈bD 0 1 n):0<=x/\x<n:=by
 obtain⟨k,hk,rfl⟩:=bF.mp h
 have :=rh.mp hk
 lia
theorem Hq{α:Type}(n:Nat)(f:Nat->α):(bD 0 1 n).map (λx=>f x.toNat)=(kR n).map f:=by
 unfold bD
 rw[jy]
 refine tN λk z_=>?_
 show f (0+(k:Int)*1).toNat=f k
 congr 1;lia
theorem getD_some{l:List Int}{i:Nat}(h:i<l.length):l[i]? =some (l.getD i 0):=by simp[h]
def uW:aM:=λvs Q=>a1 (λv0=>bq v0 λl=>Q (.i (aD l))) vs
noncomputable def F8(l:List Int)(x:Int×Sl):Sg:=⟨[("numbers",.val (.l .I l)),("found",.val (.i x.1)),("number",x.2)],[]⟩
def JG(l:List Int)(k:Nat)(x:Int×Sl):Prop:=x.1=aD (l.take k)
theorem Wj(B:aP G){D:Nat}(hs:aG G D [("gcd",jB)]):ao G (D+1) "gcd_all" uW:=eD B (i:=4) (by kernel_rfl) hs λvs Q h=>by
 apply cu h;intro v h0
 apply bL h0;intro l hq
 refine⟨rfl,λd Γ hd b e=>WS.foP (i:=4) (mt:=[]) (k:=1) b hd e (by kernel_rfl) (by kernel_rfl) (aX (B:=qF 4 [("gcd",jB)] [] (lp (au 4).body 1) ((au 4).body.drop 2) (aB Q) K.I l (F8 l (0,.any))) (by kernel_rfl) ⟨_,F8 l,JG l,(0,.any),rfl,rfl,λj c x a hx=>aX (B:=(∃x',JG l (j+1) x'/\Sg.mk [("numbers",.val (.l .I l)),("found",.val (.i (↑(bp x.1 c):Int))),("number",.val (.i c))] []=Sg.mk [("numbers",.val (.l .I l)),("found",.val (.i x'.1)),("number",x'.2)] [])) (by kernel_rfl) ?_,λx hx=>aX (B:=(Q (V.i x.1))) (by kernel_rfl) ?_⟩)⟩
 ·obtain⟨x0,x1⟩:=x
  have hx:x0=aD (l.take j):=hx
  subst hx
  refine⟨(_,.val (.i c)),?_,rfl⟩
  show _=aD (l.take (j+1))
  unfold aD
  simp only[gS,a]
  simp[rD]
 ·obtain⟨x0,x1⟩:=x
  have hx:x0=aD (l.take l.length):=hx
  rw[e9 (cR _)]at hx
  subst hx
  exact hq
def fQ:aM:=λvs Q=>a1 (λv0=>bq v0 λl=>Q (.i (aD l))) vs
theorem QH(B:aP G){D:Nat}(hs:aG G D [("gcd_all",uW)]):ao G (D+1) "zcontent" fQ:=bJ B (i:=18) (D:=D) (sp:=[("gcd_all",uW)]) [] (by kernel_rfl) hs λvs Q h=>by
 apply cu h;intro v0 h0
 apply bL h0;intro l hq
 refine⟨rfl,bP (α:=gd 18 [("gcd_all",uW)] [] [(.l .I l)] (aB Q)) (β:=Q (V.i (aD l))) (by kernel_rfl) ?_⟩
 exact hq
def rX:aM:=λvs Q=>a1 (λv0=>bq v0 λl=>(l.length<=1000000)/\Q (.l .I (ct l))) vs
noncomputable def Qx(l:List Int)(x:Int):Sg:=⟨[("row",.val (.l .I l)),("size",.val (.i x))],[]⟩
def Kw(l:List Int)(n:Nat)(x:Int):Prop:=0<=x/\x.toNat<=l.length/\x.toNat=n/\ct (l.take x.toNat)=ct l
theorem SR(B:aP G):ao G 1 "ztrim" rX:=eD B (i:=9) (D:=0) (sp:=[]) (by kernel_rfl) (λp h=>nomatch h) λvs Q h=>by
 apply cu h;intro v h0
 apply bL h0;intro l g
 obtain⟨hp,hq⟩:=g
 refine⟨rfl,λd Γ hd c j=>WS.whP (i:=9) (mt:=[]) (k:=1) c hd j (by kernel_rfl) (by kernel_rfl) (Qx l) (Kw l) l.length (l.length:Int) (aX (B:=(aC.next=aC.next/\Sg.mk [("row",.val (.l .I l)),("size",.val (.i (l.length:Int)))] []=Sg.mk [("row",.val (.l .I l)),("size",.val (.i (l.length:Int)))] [])) (by kernel_rfl) ⟨rfl,rfl⟩) ⟨by trivial,by simp,by simp,by simp⟩ λn x hx=>aX (B:=(aE (decide (x>0)) (a9 (cg l (x-1)) λf=>aE (f==0) (∃m x',m<n/\Kw l m x'/\Sg.mk [("row",.val (.l .I l)),("size",.val (.i (x-1)))] []=Sg.mk [("row",.val (.l .I l)),("size",.val (.i x'))] []) (0<=x/\Q (V.l K.I (wu x.toNat l)))) (0<=x/\Q (V.l K.I (wu x.toNat l))))) (by kernel_rfl) ?_⟩
 obtain⟨p0,p1,p2,a⟩:=hx
 obtain⟨m,rfl⟩:=mS p0
 have p1:m<=l.length:=p1
 cases m with
 |zero=>
  refine wc (λb=>⟨by trivial,?_⟩) (λe=>absurd e (by decide))
  have e:ct l=l.take 0:=a.symm.trans (by simp[ct])
  exact e▸hq
 |succ t=>
  have hg:cg l (((t+1:Nat):Int)-1)=some l[t]:=by rw[show((t+1:Nat):Int)-1=(t:Int)from MD t 1,sH (jz t)];exact kT p1
  refine wc (λe=>absurd e (by simp)) (λb=>sw hg (wc (λe2=>⟨by trivial,?_⟩) (λe2=>⟨t,t,by trivial,⟨jz t,by trivial,by trivial,?_⟩,by trivial⟩)))
  ·have e:ct l=l.take (t+1):=a.symm.trans (by show ct (l.take (t+1))=_;rw[Hd (kT p1),nJ,if_neg (by simpa using e2)])
   exact e▸hq
  ·refine Eq.trans ?_ a
   show ct (l.take t)=ct (l.take (t+1))
   rw[Hd (kT p1),nJ,if_pos (by simpa using e2)]
def rR:aM:=λvs Q=>a2 (λv0 v1=>bq v0 λa=>bq v1 λc=>(a.length<=1000/\c.length<=1000)/\Q (.l .I (dT a c))) vs
theorem TC(B:aP G){D:Nat}(hs:aG G D [("ztrim",rX)]):ao G (D+1) "zadd" rR:=bJ B (i:=12) (D:=D) (sp:=[("ztrim",rX)]) [] (by kernel_rfl) hs λvs Q h=>by
 apply bI h;intro v0 v1 h0
 apply bL h0;intro a h1
 apply bL h1;intro c m
 obtain⟨hp,hq⟩:=m
 refine⟨rfl,bP (α:=gd 12 [("ztrim",rX)] [] [(.l .I a),(.l .I c)] (aB Q)) (β:=bE (max (↑(aR a):Int) (↑(aR c):Int))/\aR (bD 0 1 (bY (max (↑(aR a):Int) (↑(aR c):Int))))<=(1000000:Nat)/\∃F:K.D K.I->K.D K.I,(∀(x:K.D K.I),x∈bD 0 1 (bY (max (↑(aR a):Int) (↑(aR c):Int)))->aE (decide (x< (↑(aR a):Int))) (a9 (cg a x) λd=>aE (decide (x< (↑(aR c):Int))) (a9 (cg c x) λk=>K.of K.I (V.i (d+k))=some (F x)/\[(al "b",Sl.val (V.l K.I c)),(al "a",Sl.val (V.l K.I a))]=[(al "b",Sl.val (V.l K.I c)),(al "a",Sl.val (V.l K.I a))]) (K.of K.I (V.i (d+0))=some (F x)/\[(al "b",Sl.val (V.l K.I c)),(al "a",Sl.val (V.l K.I a))]=[(al "b",Sl.val (V.l K.I c)),(al "a",Sl.val (V.l K.I a))])) (aE (decide (x< (↑(aR c):Int))) (a9 (cg c x) λd=>K.of K.I (V.i (0+d))=some (F x)/\[(al "b",Sl.val (V.l K.I c)),(al "a",Sl.val (V.l K.I a))]=[(al "b",Sl.val (V.l K.I c)),(al "a",Sl.val (V.l K.I a))]) (K.of K.I (V.i 0)=some (F x)/\[(al "b",Sl.val (V.l K.I c)),(al "a",Sl.val (V.l K.I a))]=[(al "b",Sl.val (V.l K.I c)),(al "a",Sl.val (V.l K.I a))])))/\aR (bS F (bD 0 1 (bY (max (↑(aR a):Int) (↑(aR c):Int)))))<=(1000000:Nat)/\Q (V.l K.I (ct (bS F (bD 0 1 (bY (max (↑(aR a):Int) (↑(aR c):Int)))))))) (by kernel_rfl) ?_⟩
 have em:(max (a.length:Int) (c.length:Int)).toNat=max a.length c.length:=by
  rcases Nat.le_total a.length c.length with h|h
  ·rw[Nat.max_eq_right h,Int.max_eq_right (dH.mpr h)];rfl
  ·rw[Nat.max_eq_left h,Int.max_eq_left (dH.mpr h)];rfl
 have ga: ∀x:Int,0<=x->x<a.length->cg a x=some (a.getD x.toNat 0):=λx h0 h1=>by rw[sH h0,getD_some (by lia)]
 have j: ∀x:Int,0<=x->x<c.length->cg c x=some (c.getD x.toNat 0):=λx h0 h1=>by rw[sH h0,getD_some (by lia)]
 have g: ∀x:Int,0<=x->¬ x<a.length->a.getD x.toNat 0=0:=λx h0 h1=>by rw[mV,Mu (by lia)];rfl
 have f: ∀x:Int,0<=x->¬ x<c.length->c.getD x.toNat 0=0:=λx h0 h1=>by rw[mV,Mu (by lia)];rfl
 refine⟨⟨by lia,by lia⟩,by unfold bD;rw[bi,oA];lia,λx=>a.getD x.toNat 0+c.getD x.toNat 0,λx hx=>?_,by unfold bD;rw[bi,bi,oA];lia,?_⟩
 ·have b:=(qg hx).1
  refine cw (λe=>sw (ga x b (of_decide_eq_true e)) (cw (λe2=>sw (j x b (of_decide_eq_true e2)) ⟨rfl,rfl⟩) (λe2=>⟨?_,rfl⟩))) (λe=>cw (λe2=>sw (j x b (of_decide_eq_true e2)) ⟨?_,rfl⟩) (λe2=>⟨?_,rfl⟩))
  ·show some (a.getD (bY x) 0+0)=some (a.getD (bY x) 0+c.getD (bY x) 0);rw[f x b (of_decide_eq_false e2)]
  ·show some (0+c.getD (bY x) 0)=some (a.getD (bY x) 0+c.getD (bY x) 0);rw[g x b (of_decide_eq_false e)]
  ·show some (0+0)=some (a.getD (bY x) 0+c.getD (bY x) 0);rw[g x b (of_decide_eq_false e),f x b (of_decide_eq_false e2)]
 ·rw[Hq _ λi=>a.getD i 0+c.getD i 0,em];exact hq
def xd:aM:=λvs Q=>a2 (λv0 v1=>bq v0 λa=>bq v1 λc=>(a.length<=1000/\c.length<=1000)/\Q (.l .I (dT a (c.map λx=> -x)))) vs
theorem Ur(B:aP G){D:Nat}(hs:aG G D [("zneg",lq),("zadd",rR)]):ao G (D+1) "zsub" xd:=bJ B (i:=14) (D:=D) (sp:=[("zneg",lq),("zadd",rR)]) [] (by kernel_rfl) hs λvs Q h=>by
 apply bI h;intro v0 v1 h0
 apply bL h0;intro a h1
 apply bL h1;intro c b
 obtain⟨hp,hq⟩:=b
 refine⟨rfl,bP (α:=gd 14 [("zneg",lq),("zadd",rR)] [] [(.l .I a),(.l .I c)] (aB Q)) (β:=aR c<=1000000/\(aR a<=1000/\aR (bS (λx=> -x) c)<=1000)/\Q (V.l K.I (dT a (bS (λx=> -x) c)))) (by kernel_rfl) ?_⟩
 exact⟨by lia,⟨hp.1,by rw[bi];exact hp.2⟩,hq⟩
def m8:aM:=λvs Q=>a1 (λv0=>bq v0 λp=>(p≠ [])/\Q (.no)) vs
theorem PX(B:aP G):ao G 1 "check_bottom" m8:=bJ B (i:=25) (D:=0) (sp:=[]) [] (by kernel_rfl) (λp h=>nomatch h) λvs Q h=>by
 apply cu h;intro v0 h0
 apply bL h0;intro p a
 obtain⟨hp,hq⟩:=a
 refine⟨rfl,bP (α:=gd 25 [] [] [(.l .I p)] (aB Q)) (β:=aE ((p.length:Int)==0) False (Q V.no)) (by kernel_rfl) ?_⟩
 exact cw (λe=>hp (Fy (by simpa using e))) (λe=>hq)
def sN:aM:=λvs Q=>a1 (λv0=>bq v0 λp=>(p.length<=1000000/\(p≠ []->aD p≠0/\bk (aD p) 8000=true/\bk (-(aD p)) 8000=true))/\Q (.l .I (if p=[]then []else p.map λx=>x.fdiv (if p.getLastD 0>0 then aD p else -(aD p))))) vs
theorem V3(B:aP G){D:Nat}(hs:aG G D [("zcontent",fQ),("zdivided",ll)]):ao G (D+1) "zprimitive" sN:=bJ B (i:=20) (D:=D) (sp:=[("zcontent",fQ),("zdivided",ll)]) [] (by kernel_rfl) hs λvs Q h=>by
 apply cu h;intro v0 h0
 apply bL h0;intro p b
 obtain⟨hp,hq⟩:=b
 refine⟨rfl,bP (α:=gd 20 [("zcontent",fQ),("zdivided",ll)] [] [(.l .I p)] (aB Q)) (β:=aE ((p.length:Int)==0) (Q (V.l K.I [])) (a9 (cg p (-1)) λx=>aE (decide (x>0)) ((aR p<=1000000/\aD p≠0/\bk (aD p) 8000=true)/\Q (V.l K.I (bS (λx=>bg x (aD p)) p))) ((aR p<=1000000/\ -aD p≠0/\bk (-aD p) 8000=true)/\Q (V.l K.I (bS (λx=>bg x (-aD p)) p))))) (by kernel_rfl) ?_⟩
 refine cw (λe=>?_) (λe=>?_)
 ·rw[if_pos (Fy (by simpa using e))]at hq;exact hq
 ·have a:p≠ []:=by intro z;subst z;cases e
  obtain⟨c,g1,g2⟩:=hp.2 a
  rw[if_neg a]at hq
  refine sw (Ck (x0:=0) a) (cw (λe2=>⟨⟨hp.1,c,g1⟩,?_⟩) (λe2=>⟨⟨hp.1,by lia,g2⟩,?_⟩))
  ·rw[if_pos (of_decide_eq_true e2)]at hq;exact hq
  ·rw[if_neg (of_decide_eq_false e2)]at hq;exact hq
end
section
variable {G:aK} {d:Nat} {Γ:Fm} {S:St}
noncomputable def p8(i:Nat)(x:Int)(f:List Int)(p:Int×Nat):List Int:=f.set (i+p.2) (f.getD (i+p.2) 0+x*p.1)
noncomputable def jK(i:Nat)(x:Int)(b:List Int)(f:List Int):List Int:=b.zipIdx.foldl (p8 i x) f
theorem Kf{α:Type}{l:List α}{k:Nat}{c:α}(h:l[k]? =some c):(l.take (k+1)).zipIdx=(l.take k).zipIdx++[(c,k)]:=by
 have hk:k<l.length:=(gv.mp h).1
 simp only[gS,h,List.zipIdx_append]
 simp[kX,Fh (eP hk)]
theorem W9{i:Nat}{x c:Int}{l f:List Int}{k:Nat}(h:l[k]? =some c):jK i x (l.take (k+1)) f=p8 i x (jK i x (l.take k) f) (c,k):=by
 unfold jK;simp only[Kf h,rD];rfl
theorem CK{α:Type}{g:List Int->α->List Int}(hg: ∀f p,(g f p).length=f.length): ∀{l:List α} {f:List Int},(l.foldl g f).length=f.length
 | [],_=>rfl
 |p::l,f=>by simp only[wm,CK hg,hg]
theorem Iu{i:Nat}{x:Int}{o f:List Int}:(jK i x o f).length=f.length:=CK (λf p=>by simp[p8])
theorem Jj{l:List Int}{k:Nat}{t:Int×Int}(h:(fZ l)[k]? =some t): ∃c,l[k]? =some c/\t=((k:Int),c):=by
 unfold fZ at h
 simp only[jd,List.getElem?_zipIdx]at h
 cases q:l[k]? with
 |none=>rw[q]at h;cases h
 |some c=>rw[q]at h;cases h;exact⟨c,rfl,by simp⟩
theorem I6{l:List Int}:(fZ l).length=l.length:=by simp[fZ]
noncomputable def mz(a b:List Int):List Int:=if a=[]\/b=[]then []else a.zipIdx.foldl (λf p=>if p.1=0 then f else jK p.2 p.1 b f) (gP (a.length+b.length-1) 0)
noncomputable def oM(a b z:List Int):List Int:=a.zipIdx.foldl (λf p=>if p.1=0 then f else jK p.2 p.1 b f) z
theorem TF{a b z:List Int}:(oM a b z).length=z.length:=CK (λf p=>by by_cases h:p.1=0<;>simp[h,Iu])
theorem Hh{a b z:List Int}{k:Nat}{c:Int}(h:a[k]? =some c):oM (a.take (k+1)) b z=if c=0 then oM (a.take k) b z else jK k c b (oM (a.take k) b z):=by
 unfold oM;simp only[Kf h,rD];rfl
theorem UY{p:List Int}:((p.length:Int)==0)=true↔p=[]:=by
 rw[beq_iff_eq]
 constructor
 ·intro h;exact Fy (by lia)
 ·intro h;subst h;rfl
def Bz:aM:=λvs Q=>a2 (λv0 v1=>bq v0 λa=>bq v1 λc=>((a.length<=1000/\c.length<=1000)/\∀x∈a,∀y∈c,aq x y=true)/\Q (.l .I (mz a c))) vs
noncomputable abbrev qx(a c:List Int)(x:List Int×Sl×Sl×Sl×Sl):Sg:=⟨[("a",.val (.l .I a)),("b",.val (.l .I c)),("found",.own .I x.1),("one",x.2.1),("left",x.2.2.1),("other",x.2.2.2.1),("right",x.2.2.2.2)],[]⟩
def We(a c:List Int)(k:Nat)(x:List Int×Sl×Sl×Sl×Sl):Prop:=x.1=oM (a.take k) c (gP (a.length+c.length-1) 0)
def GH(j:Nat)(e:Int)(c F:List Int)(k:Nat)(x:List Int×Sl×Sl×Sl×Sl):Prop:=x.1=jK j e (c.take k) F/\x.2.1= .val (.i j)/\x.2.2.1= .val (.i e)
theorem Pb{i j n m:Nat}(h1:i<n)(h2:j<m):i+j<n+m-1:=Nat.lt_sub_of_add_lt (dr (d7 (iK (rm i j 1)) (pY h2 _)) (tS h1 m))
theorem Cw{n m:Nat}(h:n+m<=2000):((-9223372036854775808:Int)<=n+m-1/\(n:Int)+m-1<9223372036854775808)/\1*((n:Int)+m-1).toNat<=16777216:=
 ⟨⟨bb (by decide) (Int.sub_le_sub_right (jz (n+m)) 1),oB (ME _ (by decide)) (mX.mpr (d7 h (by decide:2000<9223372036854775808)))⟩,(MF _).symm▸(zR (n+m) 1).symm▸aZ (kg _ _) (aZ h (by decide))⟩
theorem UR(B:aP G):ao G 1 "zmul" Bz:=eD B (i:=17) (D:=0) (sp:=[]) (by kernel_rfl) (λp h=>nomatch h) λvs Q h=>by
 apply bI h;intro v w h0
 apply bL h0;intro a h1
 apply bL h1;intro c bf
 obtain⟨⟨hp,hm⟩,hq⟩:=bf
 refine⟨rfl,λd Γ hd A Z=>WS.foQ (i:=17) (mt:=["found"]) (k:=2) (Qi:=uL G d Γ (au 17).scope.names (lp (au 17).body 2) ((au 17).body.drop 3) (aB Q)) A hd Z (by kernel_rfl) (by kernel_rfl) (aX (B:=(λ(Qi:(k:K)->List k.D->Sg->Prop)=>(aE ((↑(aR a):Int)==(0:Int)) (Q (V.l K.I [])) (aE ((↑(aR c):Int)==(0:Int)) (Q (V.l K.I [])) (((-9223372036854775808:Int)<=(↑(aR a):Int)+(↑(aR c):Int)-(1:Int)/\(↑(aR a):Int)+(↑(aR c):Int)-(1:Int)< (9223372036854775808:Int)/\(1:Nat)*bY ((↑(aR a):Int)+(↑(aR c):Int)-(1:Int))<=(16777216:Nat))/\Qi K.R (fZ a) (Sg.mk [(al "a",Sl.val (V.l K.I a)),(al "b",Sl.val (V.l K.I c)),(al "found",Sl.own K.I (zS (gP (bY ((↑(aR a):Int)+(↑(aR c):Int)-(1:Int))) [(0:Int)]))),(al "one",Sl.any),(al "left",Sl.any),(al "other",Sl.any),(al "right",Sl.any)] []))))) (uL G d Γ (au 17).scope.names (lp (au 17).body 2) ((au 17).body.drop 3) (aB Q))) (by kernel_rfl) ?_) λU U U h=>h⟩
 have hn:Γ.env.scope.names=(au 17).scope.names:=by rw[Z]
 have nil: ∀l:List Int,((l.length:Int)==0)=true->l=[]:=λl e=>UY.mp e
 have ne: ∀l:List Int,((l.length:Int)==0)=false->l≠ []:=λl e z=>by subst z;cases e
 refine cw (λe=>?_) (λe=>cw (λe2=>?_) (λe2=>⟨⟨(Cw (FA hp.1 hp.2)).1.1,(Cw (FA hp.1 hp.2)).1.2,(Cw (FA hp.1 hp.2)).2⟩,?_⟩))
 ·unfold mz at hq;rw[if_pos (.inl (nil a e))]at hq;exact hq
 ·unfold mz at hq;rw[if_pos (.inr (nil c e2))]at hq;exact hq
 have Ej:=ne a e
 have Ea:=ne c e2
 unfold mz at hq
 rw[if_neg (λo=>o.elim Ej Ea)]at hq
 generalize hz:(gP ((a.length:Int)+(c.length:Int)-1).toNat [(0:Int)]).flatten=z
 have H:z=gP (a.length+c.length-1) 0:=by
  rw[← hz,show((a.length:Int)+(c.length:Int)-1).toNat=a.length+c.length-1 from zR (a.length+c.length) 1]
  generalize a.length+c.length-1=n
  induction n with
  |zero=>rfl
  |succ n ih=>rw[Fc,zw,ih];rfl
 subst H
 clear hz
 refine⟨_,qx a c,We a c,⟨(_,.any,.any,.any,.any),rfl,rfl⟩,λj t x hj hx=>⟨λσ2=>∃c0,a[j]? =some c0/\σ2=qx a c (x.1,.val (.i j),.val (.i c0),x.2.2.2),?_,?_⟩,λx hx=>bW A hd hn (mt:=["found"]) (m:=4) (N:=20) (aX (B:=(Q (V.l K.I (ai x)))) (by kernel_rfl) ?_)⟩
 ·obtain⟨c0,r,rfl⟩:=Jj hj
  exact⟨c0,r,rfl⟩
 ·rintro σ2 ⟨c0,r,rfl⟩
  have hx:x.1=oM (a.take j) c (gP (a.length+c.length-1) 0):=hx
  have O:j<a.length:=(gv.mp r).1
  have s:c0∈a:=kh r
  refine WS.ifsG (P:=cy []) (N:=20) A hd hn (by kernel_rfl) (Qt:=λb ah=>aE b (jN (lw (cy []) 20) (au 17).scope.names ah (my (lp (sX (lp (fz (lp (au 17).body 2)) 0)) 0)) (pd (lp (sX (lp (fz (lp (au 17).body 2)) 0)) 0)) (λk' xs ah=>c0≠0/\iN .R (fZ c) (qx a c (x.1,.val (.i j),.val (.i c0),x.2.2.2)) k' xs ah)) (c0=0/\ah=qx a c (x.1,.val (.i j),.val (.i c0),x.2.2.2))) (aX (B:=(λ(i:Nat) (Qi:(k:K)->List k.D->Sg->Prop) (Qs:Sg->Prop)=>(aE (c0 !=(0:Int)) (Qi K.R (fZ c) (Sg.mk [(al "a",Sl.val (V.l K.I a)),(al "b",Sl.val (V.l K.I c)),(al "found",Sl.own K.I (ai x)),(al "one",Sl.val (V.i (↑i:Int))),(al "left",Sl.val (V.i c0)),(al "other",(ak (ak (ak (ai x,Sl.val (V.i (↑i:Int)),Sl.val (V.i c0),ak (ak (ak x)))))).1),(al "right",(ak (ak (ak (ai x,Sl.val (V.i (↑i:Int)),Sl.val (V.i c0),ak (ak (ak x)))))).2)] [])) (Qs (Sg.mk [(al "a",Sl.val (V.l K.I a)),(al "b",Sl.val (V.l K.I c)),(al "found",Sl.own K.I (ai x)),(al "one",Sl.val (V.i (↑i:Int))),(al "left",Sl.val (V.i c0)),(al "other",(ak (ak (ak (ai x,Sl.val (V.i (↑i:Int)),Sl.val (V.i c0),ak (ak (ak x)))))).1),(al "right",(ak (ak (ak (ai x,Sl.val (V.i (↑i:Int)),Sl.val (V.i c0),ak (ak (ak x)))))).2)] [])))) j (λk' xs ah=>c0≠0/\iN .R (fZ c) (qx a c (x.1,.val (.i j),.val (.i c0),x.2.2.2)) k' xs ah) (λah=>c0=0/\ah=qx a c (x.1,.val (.i j),.val (.i c0),x.2.2.2))) (by kernel_rfl) (cw (λe=>⟨by simpa using e,.mk⟩) (λe=>⟨by simpa using e,rfl⟩))) λb ah q=>⟨λe=>?_,λe=>?_⟩
  ·refine WS.forrG (P:=cy []) (N:=20) A hd hn (by kernel_rfl) (q.t e) λk' xs ah w=>?_
   obtain⟨S,w⟩:=w
   cases w
   refine⟨_,qx a c,GH j c0 c x.1,⟨(x.1,.val (.i j),.val (.i c0),x.2.2.2),⟨rfl,rfl,rfl⟩,rfl⟩,λg y C Ed L=>?_,λC L=>?_⟩
   ·obtain⟨y,M,rfl⟩:=Jj Ed
    obtain⟨i1,i2,E⟩:=L
    obtain⟨f,s1,s2,s3,s4⟩:=C
    have i2:s1= .val (.i j):=i2
    have E:s2= .val (.i c0):=E
    have W:f=jK j c0 (c.take g) x.1:=i1
    subst i2 E
    have hl:f.length=a.length+c.length-1:=by rw[W,Iu,hx,TF,wr]
    have u:g<c.length:=(gv.mp M).1
    have X:((j:Int)+(g:Int)).toNat=j+g:=rfl
    have Y:j+g<f.length:=hl▸Pb O u
    refine xX (P:=cy []) (N:=20) (mt:=["found"]) (m:=4) A hd hn (aX (B:=(λ(i:Nat) (e:Int) (F:List Int) (j:Nat) (y:Int×Int) (x:List Int×Sl×Sl×Sl×Sl)=>(((0:Int)<=(↑i:Int)+ai y/\(↑i:Int)+ai y< (↑(aR (ai x)):Int))/\a9 (ai x)[bY ((↑i:Int)+ai y)]? λJ=>aq e (ak y)=true/\∃x',GH i e c F (j+(1:Nat)) x'/\Sg.mk [(al "a",Sl.val (V.l K.I a)),(al "b",Sl.val (V.l K.I c)),(al "found",Sl.own K.I (List.set (ai x) (bY ((↑i:Int)+ai y)) (J+e*ak y))),(al "one",Sl.val (V.i (↑i:Int))),(al "left",Sl.val (V.i e)),(al "other",Sl.val (V.i (ai y))),(al "right",Sl.val (V.i (ak y)))] []=Sg.mk [(al "a",Sl.val (V.l K.I a)),(al "b",Sl.val (V.l K.I c)),(al "found",Sl.own K.I (ai x')),(al "one",(ak x').1),(al "left",(ak (ak x')).1),(al "other",(ak (ak (ak x'))).1),(al "right",(ak (ak (ak x'))).2)] [])) j c0 x.1 g (((g:Nat):Int),y) (f,.val (.i j),.val (.i c0),s3,s4)) (by kernel_rfl) ?_)
    refine⟨⟨jz (j+g),mX.mpr Y⟩,sw (x:=f.getD (j+g) 0) ?_ ⟨hm c0 s y (kh M),(_,.val (.i j),.val (.i c0),_,_),⟨?_,rfl,rfl⟩,rfl⟩⟩
    ·show f[((j:Int)+(g:Int)).toNat]? =_;rw[X,getD_some Y]
    ·show f.set ((j:Int)+(g:Int)).toNat _=_;rw[X,W9 M, ← W];rfl
   ·obtain⟨i1,i2,E⟩:=L
    rw[I6,e9 (cR _)]at i1
    exact WS.nil (WS.nil ⟨C,by show C.1=_;rw[Hh r,if_neg S, ← hx];exact i1,rfl⟩)
  ·obtain⟨H,rfl⟩:=q.f e
   exact WS.nil (WS.nil ⟨(x.1,_,_,_,_),by show x.1=_;rw[Hh r,if_pos H];exact hx,rfl⟩)
 ·have hx:x.1=oM (a.take (fZ a).length) c _:=hx
  rw[I6,e9 (cR _)]at hx
  rw[hx];exact hq
end
section
variable {G:aK} {d:Nat} {Γ:Fm} {S:St}
def HB(v:V)(Q:Prop):Prop:=bq v λl=>match l with
 | []=>Q
 |_=>False
def m6(v:V)(Q:Int->Prop):Prop:=bq v λl=>match l with
 | [x]=>Q x
 |_=>False
def c5(v:V)(Q:Int->Int->Prop):Prop:=bq v λl=>match l with
 | [x,y]=>Q x y
 |_=>False
def f7(v:V)(Q:Int->Int->Int->Prop):Prop:=bq v λl=>match l with
 | [x,y,z]=>Q x y z
 |_=>False
theorem SN{v:V}{Q:Prop}(h:HB v Q):v= .l .I []/\Q:=by
 obtain⟨l,rfl,h⟩:=sF h
 match l,h with
 | [],h=>exact⟨rfl,h⟩
theorem UO{v:V}{Q:Int->Prop}(h:m6 v Q): ∃x,v= .l .I [x]/\Q x:=by
 obtain⟨l,rfl,h⟩:=sF h
 match l,h with
 | [x],h=>exact⟨x,rfl,h⟩
theorem qC{v:V}{Q:Int->Prop}{C:V->Prop}(h:m6 v Q)(c: ∀x,Q x->C (.l .I [x])):C v:=by
 obtain⟨x,rfl,q⟩:=UO h;exact c x q
theorem OW{v:V}{Q:Int->Int->Prop}(h:c5 v Q): ∃x y,v= .l .I [x,y]/\Q x y:=by
 obtain⟨l,rfl,h⟩:=sF h
 match l,h with
 | [x,y],h=>exact⟨x,y,rfl,h⟩
theorem dn{v:V}{Q:Int->Int->Prop}{C:V->Prop}(h:c5 v Q)(c: ∀x y,Q x y->C (.l .I [x,y])):C v:=by
 obtain⟨x,y,rfl,q⟩:=OW h;exact c x y q
theorem OY{v:V}{Q:Int->Int->Int->Prop}(h:f7 v Q): ∃x y z,v= .l .I [x,y,z]/\Q x y z:=by
 obtain⟨l,rfl,h⟩:=sF h
 match l,h with
 | [x,y,z],h=>exact⟨x,y,z,rfl,h⟩
theorem gY{v:V}{Q:Int->Int->Int->Prop}{C:V->Prop}(h:f7 v Q)(c: ∀x y z,Q x y z->C (.l .I [x,y,z])):C v:=by
 obtain⟨x,y,z,rfl,q⟩:=OY h;exact c x y z q
def B4:aM:=λvs Q=>a2 (λv0 v1=>c5 v0 λx y=>br v1 λn=>(aq n y=true)/\Q (.l .I [x+n*y,y])) vs
theorem Vi(B:aP G):ao G 1 "zshift" B4:=bJ B (i:=23) (D:=0) (sp:=[]) ["found"] (by kernel_rfl) (λp h=>nomatch h) λvs Q h=>by
 apply bI h;intro v0 v1 h0
 apply dn h0;intro x y h1
 apply dI h1;intro n a
 obtain⟨hp,hq⟩:=a
 refine⟨rfl,bP (α:=gd 23 [] ["found"] [(.l .I [x,y]),(.i n)] (aB Q)) (β:=bE (1:Int)/\(bE (0:Int)/\bE (-1:Int)/\(-1:Int)=(-1:Int))/\((0:Int)<=(0:Int)/\(0:Int)< (2:Int))/\aq n y=true/\Q (V.l K.I [x+n*y,y])) (by kernel_rfl) ?_⟩
 repeat' (first |exact hq|refine⟨_,rfl,?_⟩|refine⟨?_,?_⟩|assumption|decide|omega|rfl)
end
section
variable {G:aK} {d:Nat} {Γ:Fm} {S:St}
def Sm(k:Nat)(x:Int):Prop:=bk x k=true
theorem Sm.iff{k:Nat}{x:Int}:Sm k x↔x.natAbs<2^k:=by
 constructor
 ·exact λh=>mP h
 ·exact λh=>MG h
theorem Sm.mono{j k:Nat}{x:Int}(h:Sm j x)(a:j<=k):Sm k x:=Sm.iff.mpr (dr (Sm.iff.mp h) (MH (by decide) a))
theorem Sm.mul{j k:Nat}{x y:Int}(h1:Sm j x)(h2:Sm k y):Sm (j+k) (x*y):=by
 rw[Sm.iff,fH,Nat.pow_add]
 exact Nat.mul_lt_mul'' (Sm.iff.mp h1) (Sm.iff.mp h2)
theorem Sm.add{j k:Nat}{x y:Int}(h1:Sm j x)(h2:Sm k y):Sm (j+k+1) (x+y):=by
 have a:=Sm.iff.mp (h1.mono (ij j k));have b:=Sm.iff.mp (h2.mono (FB k j))
 exact Sm.iff.mpr (by simp only[MI,Nat.mul_two];exact d7 (FC x y) (zJ a b))
theorem Sm.neg{k:Nat}{x:Int}(h:Sm k x):Sm k (-x):=by rw[Sm.iff,jg];exact Sm.iff.mp h
theorem Sm.sub{j k:Nat}{x y:Int}(h1:Sm j x)(h2:Sm k y):Sm (j+k+1) (x-y):=by simp only[rE];exact h1.add h2.neg
theorem Sm.ok{j k:Nat}{x y:Int}(h1:Sm j x)(h2:Sm k y)(a:j<=60000)(b:k<=60000):aq x y=true:=by
 have h1:=h1.mono a;have h2:=h2.mono b
 unfold Sm at h1 h2;unfold aq
 simp only[h1,h2];simp
theorem Sm.lit{x:Int}(h:bk x 64=true):Sm 64 x:=h
theorem Sm.of_le{k:Nat}{x y:Int}(h:Sm k x)(hl:y.natAbs<=x.natAbs):Sm k y:=Sm.iff.mpr (d7 hl (Sm.iff.mp h))
theorem nk{q x:Int}(h0:0<=q)(h:q<=x):q.natAbs<=x.natAbs:=dH.mp (by simp only[p6 h0,p6 (bb h0 h)];exact h)
theorem Ov(x y:Int):(x.fdiv y).natAbs<=x.natAbs:=by
 by_cases a:y=0
 ·subst a;simp
 have key: ∀x y:Int,0<y->(x.fdiv y).natAbs<=x.natAbs:=λx y a=>by
  have e:=XR x y
  have m0:=MB x a
  have m1:=Fz x a
  generalize x.fdiv y=q at *
  generalize x.fmod y=m at *
  by_cases hq:0<=q
  ·have :q<=y*q:=by have :=fI (show 1<=y by trivial) hq;trivial
   exact nk hq (by lia)
  ·have :y*q<=y*(-1)+(q+1):=by
    have :=fI (show 1<=y by trivial) (show 0<= -(q+1) by trivial)
    have e2:y*(-(q+1))= -(y*q)-y:=by simp only[k8,FD];trivial
    have e3:y*(-1)= -y:=by trivial
    trivial
   simp only[← jg q, ← jg x];exact nk (by lia) (by lia)
 rcases oE a with h|h
 ·have :=key (-x) (-y) (by trivial)
  simp only[Int.neg_fdiv_neg,jg]at this;exact this
 ·exact key x y h
theorem Sm.fdiv{k:Nat}{x y:Int}(h:Sm k x):Sm k (x.fdiv y):=h.of_le (Ov x y)
noncomputable def gN(t b:Int):Int:=if b>0 then(bp t b:Int)else 0-(bp t b:Int)
noncomputable def aL(t b:Int):Int×Int:=(t.fdiv (gN t b),b.fdiv (gN t b))
theorem x7{t b:Int}(h:b≠0):0< (bp t b:Int):=by
 have :bp t b≠0:=by rw[Ne,XS];exact λe=>h e.2
 lia
theorem SK{t b:Int}(h:b≠0):gN t b≠0:=by
 have :=x7 (t:=t) h
 unfold gN;split<;>trivial
theorem PW{t b:Int}(h:b≠0):bp t b<=b.natAbs:=MJ (by lia) (Nat.gcd_dvd_right _ _)
theorem Ob{t b:Int}(h:b>0):aL t b=(t.fdiv (bp t b),b.fdiv (bp t b)):=by unfold aL gN;rw[if_pos h]
theorem R7{t b:Int}(h:¬ b>0):aL t b=(t.fdiv (0-bp t b),b.fdiv (0-bp t b)):=by unfold aL gN;rw[if_neg h]
theorem Sm.ratN1{k:Nat}{t b:Int}(h:Sm k t):Sm k (aL t b).1:=h.fdiv
theorem Sm.ratN2{k:Nat}{t b:Int}(h:Sm k b):Sm k (aL t b).2:=h.fdiv
def jQ:aM:=λvs Q=>a2 (λv0 v1=>br v0 λt=>br v1 λc=>(c≠0/\Sm 8000 c)/\Q (rV (aL t c))) vs
theorem VC(B:aP G){D:Nat}(hs:aG G D [("gcd",jB)]):ao G (D+1) "rat" jQ:=bJ B (i:=36) (D:=D) (sp:=[("gcd",jB)]) [] (by kernel_rfl) hs λvs Q h=>by
 apply bI h;intro v0 v1 h0
 apply dI h0;intro t h1
 apply dI h1;intro c b
 obtain⟨hp,hq⟩:=b
 refine⟨rfl,bP (α:=gd 36 [("gcd",jB)] [] [(.i t),(.i c)] (aB Q)) (β:=aE (c==0) False (aE (decide (c>0)) (((↑(bp t c):Int)≠0/\bk (↑(bp t c):Int) 8000=true)/\((↑(bp t c):Int)≠0/\bk (↑(bp t c):Int) 8000=true)/\Q (V.t2 (V.i (bg t (↑(bp t c):Int))) (V.i (bg c (↑(bp t c):Int))))) ((0-(↑(bp t c):Int)≠0/\bk (0-(↑(bp t c):Int)) 8000=true)/\(0-(↑(bp t c):Int)≠0/\bk (0-(↑(bp t c):Int)) 8000=true)/\Q (V.t2 (V.i (bg t (0-(↑(bp t c):Int)))) (V.i (bg c (0-(↑(bp t c):Int)))))))) (by kernel_rfl) ?_⟩
 have g0:=x7 (t:=t) hp.1
 have hs:Sm 8000 (bp t c:Int):=hp.2.of_le (by have :=PW (t:=t) hp.1;trivial)
 refine cw (λe=>absurd (by simpa using e) hp.1) (λe=>cw (λe2=>?_) (λe2=>?_))
 ·rw[Ob (of_decide_eq_true e2)]at hq
  exact⟨⟨by trivial,hs⟩,⟨by trivial,hs⟩,hq⟩
 ·rw[R7 (of_decide_eq_false e2)]at hq
  have a:Sm 8000 (0-(bp t c:Int)):=by rw[tU];exact hs.neg
  exact⟨⟨by trivial,a⟩,⟨by trivial,a⟩,hq⟩
def uY:aM:=λvs Q=>a2 (λv0 v1=>du v0 λa=>du v1 λc=>((a.2≠0/\c.2≠0)/\(Sm 2000 a.1/\Sm 2000 a.2)/\Sm 2000 c.1/\Sm 2000 c.2)/\Q (rV (aL (a.1*c.2+c.1*a.2) (a.2*c.2)))) vs
theorem NO(B:aP G){D:Nat}(hs:aG G D [("rat",jQ)]):ao G (D+1) "radd" uY:=bJ B (i:=37) (D:=D) (sp:=[("rat",jQ)]) [] (by kernel_rfl) hs λvs Q h=>by
 apply bI h;intro v0 v1 h0
 apply dY h0;intro a h1
 apply dY h1;intro c d
 obtain⟨hp,hq⟩:=d
 refine⟨rfl,bP (α:=gd 37 [("rat",jQ)] [] [(rV a),(rV c)] (aB Q)) (β:=aq a.1 c.2=true/\aq c.1 a.2=true/\aq a.2 c.2=true/\(ak a*ak c≠0/\Sm 8000 (ak a*ak c))/\Q (V.t2 (V.i (aL (ai a*ak c+ai c*ak a) (ak a*ak c)).1) (V.i (aL (ai a*ak c+ai c*ak a) (ak a*ak c)).2))) (by kernel_rfl) ?_⟩
 refine aj λe=>?_
 obtain⟨⟨n1,b⟩,⟨s1,s2⟩,s3,s4⟩:=hp
 refine e ?_
 have n3:=bH n1 b
 have s5:Sm 8000 (a.2*c.2):=(s2.mul s4).mono (by decide)
 repeat' (first |exact hq|assumption|refine⟨_,rfl,?_⟩|refine⟨?_,?_⟩|apply Sm.ok|apply Sm.mul|apply Sm.add|apply Sm.sub|apply Sm.neg|exact Sm.lit (by decide)|decide|omega|rfl)
def B9:aM:=λvs Q=>a2 (λv0 v1=>du v0 λa=>du v1 λc=>((a.2≠0/\c.2≠0)/\(Sm 2000 a.1/\Sm 2000 a.2)/\Sm 2000 c.1/\Sm 2000 c.2)/\Q (rV (aL (a.1*c.2-c.1*a.2) (a.2*c.2)))) vs
theorem Wv(B:aP G){D:Nat}(hs:aG G D [("rat",jQ)]):ao G (D+1) "rsub" B9:=bJ B (i:=38) (D:=D) (sp:=[("rat",jQ)]) [] (by kernel_rfl) hs λvs Q h=>by
 apply bI h;intro v0 v1 h0
 apply dY h0;intro a h1
 apply dY h1;intro c d
 obtain⟨hp,hq⟩:=d
 refine⟨rfl,bP (α:=gd 38 [("rat",jQ)] [] [(rV a),(rV c)] (aB Q)) (β:=aq a.1 c.2=true/\aq c.1 a.2=true/\aq a.2 c.2=true/\(ak a*ak c≠0/\Sm 8000 (ak a*ak c))/\Q (V.t2 (V.i (aL (ai a*ak c-ai c*ak a) (ak a*ak c)).1) (V.i (aL (ai a*ak c-ai c*ak a) (ak a*ak c)).2))) (by kernel_rfl) ?_⟩
 refine aj λe=>?_
 obtain⟨⟨n1,b⟩,⟨s1,s2⟩,s3,s4⟩:=hp
 refine e ?_
 have n3:=bH n1 b
 have s5:Sm 8000 (a.2*c.2):=(s2.mul s4).mono (by decide)
 repeat' (first |exact hq|assumption|refine⟨_,rfl,?_⟩|refine⟨?_,?_⟩|apply Sm.ok|apply Sm.mul|apply Sm.add|apply Sm.sub|apply Sm.neg|exact Sm.lit (by decide)|decide|omega|rfl)
def r9:aM:=λvs Q=>a2 (λv0 v1=>du v0 λa=>du v1 λc=>((a.2≠0/\c.2≠0)/\(Sm 2000 a.1/\Sm 2000 a.2)/\Sm 2000 c.1/\Sm 2000 c.2)/\Q (rV (aL (a.1*c.1) (a.2*c.2)))) vs
theorem Pl(B:aP G){D:Nat}(hs:aG G D [("rat",jQ)]):ao G (D+1) "rmul" r9:=bJ B (i:=39) (D:=D) (sp:=[("rat",jQ)]) [] (by kernel_rfl) hs λvs Q h=>by
 apply bI h;intro v0 v1 h0
 apply dY h0;intro a h1
 apply dY h1;intro c d
 obtain⟨hp,hq⟩:=d
 refine⟨rfl,bP (α:=gd 39 [("rat",jQ)] [] [(rV a),(rV c)] (aB Q)) (β:=aq a.1 c.1=true/\aq a.2 c.2=true/\(ak a*ak c≠0/\Sm 8000 (ak a*ak c))/\Q (V.t2 (V.i (aL (ai a*ai c) (ak a*ak c)).1) (V.i (aL (ai a*ai c) (ak a*ak c)).2))) (by kernel_rfl) ?_⟩
 refine aj λe=>?_
 obtain⟨⟨n1,b⟩,⟨s1,s2⟩,s3,s4⟩:=hp
 refine e ?_
 have n3:=bH n1 b
 have s5:Sm 8000 (a.2*c.2):=(s2.mul s4).mono (by decide)
 repeat' (first |exact hq|assumption|refine⟨_,rfl,?_⟩|refine⟨?_,?_⟩|apply Sm.ok|apply Sm.mul|apply Sm.add|apply Sm.sub|apply Sm.neg|exact Sm.lit (by decide)|decide|omega|rfl)
end
section
variable {G:aK} {d:Nat} {Γ:Fm} {S:St}
def AT:List Int->(List Int->Prop)->Prop
 | [],Q=>Q []
 |z::r,Q=>aE (z==0) (AT r Q) (Q (z::r).reverse)
def nl(l:List Int)(Q:List Int->Prop):Prop:=AT l.reverse Q
theorem IQ: ∀{r:List Int} {Q:List Int->Prop},AT r Q->Q (r.dropWhile (· ==0)).reverse
 | [],_,h=>h
 |z::r,Q,h=>by
  cases e:z==0 with
  |true=>rw[List.dropWhile_cons_of_pos (by exact e)];exact IQ (aE.t h e)
  |false=>rw[List.dropWhile_cons_of_neg (by simpa using e)];exact aE.f h e
theorem xc{l:List Int}{Q:List Int->Prop}(h:nl l Q):Q (ct l):=IQ h
theorem ao.weak{D:Nat}{f:ag}{s s':aM}(h:ao G D f s)(hs: ∀vs Q,s' vs Q->s vs Q):ao G D f s':=⟨h.1,λvs Q d h1 h2=>h.2 vs Q d (hs vs Q h1) h2⟩
def Be(a b:List Int)(Q:List Int->Prop):Prop:=nl ((kR (max a.length b.length)).map λi=>a.getD i 0+b.getD i 0) Q
theorem Ym{a b:List Int}{Q:List Int->Prop}(h:Be a b Q):Q (dT a b):=xc h
def Yq:aM:=λvs Q=>a2 (λv0 v1=>bq v0 λa=>bq v1 λc=>(a.length<=1000/\c.length<=1000)/\Be a (c.map λx=> -x) λl=>Q (.l .I l)) vs
def Yp:aM:=λvs Q=>a2 (λv0 v1=>bq v0 λa=>bq v1 λc=>(a.length<=1000/\c.length<=1000)/\Be a c λl=>Q (.l .I l)) vs
def pe:aM:=λvs Q=>a1 (λv0=>bq v0 λl=>l.length<=1000000/\nl l λl=>Q (.l .I l)) vs
theorem N2{D:Nat}(h:ao G D "ztrim" rX):ao G D "ztrim" pe:=h.weak λvs Q h=>by
 apply cu h;intro v h0
 apply bL h0;intro a b
 obtain⟨hp,hq⟩:=b
 exact⟨hp,xc hq⟩
def Dv:List Int->(Int->Prop)->Prop
 | [],_=>True
 | [x],P=>P x
 |x::xs,P=>P x/\Dv xs P
theorem Hg: ∀{l:List Int} {P:Int->Prop},Dv l P->∀x∈l,P x
 | [],_,_,_,h=>nomatch h
 | [x],_,h,y,a=>by obtain rfl:=bC.mp a;exact h
 |x::z::xs,_,h,y,a=>by
  rcases bz.mp a with rfl|a
  ·exact h.1
  ·exact Hg h.2 y a
def jo:aM:=λvs Q=>a2 (λv0 v1=>bq v0 λp=>br v1 λk=>(p.length<=1000000/\Dv p λx=>aq x k=true)/\aE (k==0) (Q (.l .I [])) (Q (.l .I (p.map λx=>x*k)))) vs
theorem RJ{D:Nat}(h:ao G D "zscale" xC):ao G D "zscale" jo:=h.weak λvs Q h=>by
 apply bI h;intro v w h0
 apply bL h0;intro a h1
 apply dI h1;intro k b
 obtain⟨hp,hq⟩:=b
 refine⟨⟨hp.1,Hg hp.2⟩,?_⟩
 by_cases e:k=0
 ·rw[if_pos e];exact hq.t (by simpa using e)
 ·rw[if_neg e];exact hq.f (by simpa using e)
noncomputable def cn(p:List Int)(k:Int):List Int:=if k=0 then []else p.map λx=>x*k
noncomputable def hG(p:List Int)(k:Nat):List Int:=if p=[]then []else gP k 0++p
noncomputable def ji(c r:List Int):List Int:=dT (cn r (c.getLastD 0)) ((hG (cn c (r.getLastD 0)) (r.length-c.length)).map λx=> -x)
noncomputable def hU(c:List Int):Nat->List Int->Int->List Int
 |0,r,left=>cn r (c.getLastD 0^left.toNat)
 |n+1,r,left=>if r.length<c.length then cn r (c.getLastD 0^left.toNat)else hU c n (ji c r) (left-1)
noncomputable def kb:Nat->Nat
 |0=>1000
 |t+1=>2*kb t+2002
def Bd(k:Nat)(l:List Int):Prop:=l.length<=40/\∀x∈l,Sm k x
noncomputable abbrev ip(a c:List Int):Int:=max 0 ((a.length:Int)-c.length+1)
theorem DN{i j:Nat}(h:i<=j):kb i<=kb j:=by
 induction h with
 |refl=>exact cR _
 |step _ a=>exact aZ a (aZ (XT _ (by decide)) (ij (2*kb _) 2002))
theorem PC(K:Nat):K+1000+(1000+K)+1<=2*K+2002:=by omega
theorem Uy(K:Nat):K+1000+K+1<=2*K+2002:=by omega
theorem Sm.zero{k:Nat}:Sm k 0:=Sm.iff.mpr (Nat.pow_pos (by decide))
theorem wS{j k:Nat}{p:List Int}{x:Int}(h:Bd j p)(hx:Sm k x):Bd (j+k) (cn p x):=by
 unfold cn
 split
 ·exact⟨by decide,λx hx=>nomatch hx⟩
 ·exact⟨by rw[bi];exact h.1,λy a=>by obtain⟨z,hz,rfl⟩:=bF.mp a;exact(h.2 z hz).mul hx⟩
theorem Kt{j k:Nat}{p:List Int}(h:Bd j p)(hl:p.length+k<=40):Bd j (hG p k):=by
 unfold hG
 split
 ·exact⟨by decide,λx hx=>nomatch hx⟩
 ·refine⟨by rw[fF,wr];lia,λy a=>?_⟩
  rcases iI.mp a with a|a
  ·rw[(List.mem_replicate.mp a).2];exact Sm.zero
  ·exact h.2 y a
theorem H8{j:Nat}{p:List Int}(h:Bd j p):Bd j (p.map λx=> -x):=⟨by rw[bi];exact h.1,λy a=>by obtain⟨z,hz,rfl⟩:=bF.mp a;exact(h.2 z hz).neg⟩
theorem Qa{l:List Int}{x:Int}(h:x∈ct l):x∈l:=by
 unfold ct at h
 rw[E4]at h
 exact E4.mp ((XU _).mem h)
theorem Gl{l:List Int}:(ct l).length<=l.length:=by
 unfold ct
 rw[Mb]
 exact aZ (XU _).length_le (by rw[Mb];exact cR _)
theorem Vr{a b:List Int}:(dT a b).length<=max a.length b.length:=by
 exact aZ Gl (by simp only[bi,oA];exact cR _)
theorem AL{k:Nat}{l:List Int}(h: ∀x∈l,Sm k x)(i:Nat):Sm k (l.getD i 0):=by
 rw[mV]
 cases e:l[i]? with
 |none=>exact Sm.zero
 |some x=>exact h x (kh e)
theorem GN{j k:Nat}{a b:List Int}(ha:Bd j a)(hb:Bd k b):Bd (j+k+1) (dT a b):=by
 refine⟨aZ Vr (Nat.max_le.mpr ⟨ha.1,hb.1⟩),λx hx=>?_⟩
 obtain⟨i,_,rfl⟩:=bF.mp (Qa hx)
 exact(AL ha.2 i).add (AL hb.2 i)
theorem JT{a b:List Int}{n:Nat}(hn:max a.length b.length=n+1)(h:a.getD n 0+b.getD n 0=0):(dT a b).length<=n:=by
 unfold dT
 simp only[hn,List.range_succ,jX,List.map_singleton,nJ,if_pos h]
 exact aZ Gl (by simp only[bi,oA];exact cR _)
theorem xY{l:List Int}{n:Nat}(h:l.length=n+1):l.getD n 0=l.getLastD 0:=by
 simp only[wq,XQ,mV,h];rfl
theorem CL(l:List Int)(k:Int)(i:Nat):(l.map λx=>x*k).getD i 0=l.getD i 0*k:=by
 simp only[mV,mV,jd]
 cases l[i]? <;>simp
theorem NQ(l:List Int)(i:Nat):(l.map λx=> -x).getD i 0= -(l.getD i 0):=by
 simp only[mV,mV,jd]
 cases l[i]? <;>simp
theorem Pk{d n:Nat}{l:List Int}(h:d<=n):(gP d 0++l).getD n 0=l.getD (n-d) 0:=by
 rw[mV,mV,List.getElem?_append_right (by rw[wr];exact h),wr]
theorem RB{p:List Int}{k:Int}:(cn p k).length<=p.length:=by
 unfold cn;split
 ·exact dx _
 ·rw[bi];exact cR _
theorem Bd.mono{j k:Nat}{l:List Int}(h:Bd j l)(hk:j<=k):Bd k l:=⟨h.1,λx hx=>(h.2 x hx).mono hk⟩
theorem x8{k:Nat}{l:List Int}(h: ∀x∈l,Sm k x)(hl:l≠ []):Sm k (l.getLastD 0):=by
 have :=rC.mpr hl
 simp only[← xY (l:=l) (n:=l.length-1) (wk this).symm];exact AL h _
theorem Wc{c r:List Int}(hc:c≠ [])(hl:c.getLastD 0≠0)(h:c.length<=r.length):(ji c r).length+1<=r.length:=by
 have c0:0<c.length:=rC.mpr hc
 refine aj λa=>?_
 obtain⟨n,hn⟩:=FE (zB (dr c0 h))
 obtain⟨m,hm⟩:=FE (zB c0)
 refine a ?_
 unfold ji cn
 rw[if_neg hl,hn]
 refine je ?_
 by_cases h0:r.getLastD 0=0
 ·rw[if_pos h0]
  refine JT (by simp[hG,hn]) ?_
  simp only[CL,xY hn,h0];simp[hG]
 ·rw[if_neg h0]
  have e:hG (c.map λx=>x*r.getLastD 0) (n+1-c.length)=gP (n+1-c.length) 0++c.map λx=>x*r.getLastD 0:=by
   unfold hG;rw[if_neg (by simpa using hc)]
  rw[e]
  refine JT (by simp only[bi,bi,fF,wr,bi];rw[wk (hn▸h),hn,Nat.max_self]) ?_
  rw[CL,xY hn,NQ,Pk (by rw[hm,XV];exact kg _ _),CL,show n-(n+1-c.length)=m by simp only[hm,XV];exact Nat.sub_sub_self (by simp only[hn,hm]at h;exact XW h),xY hm,bT]
  exact FF _
theorem BC{c r:List Int}{left:Int}(h:r.length<c.length): ∀n,hU c n r left=cn r (c.getLastD 0^left.toNat)
 |0=>rfl
 |n+1=>by unfold hU;rw[if_pos h]
theorem Sm.pow{k:Nat}{x:Int}(h:Sm k x): ∀n:Nat,Sm (k*n+1) (x^n)
 |0=>by simp only[fp];exact Sm.iff.mpr (by show 1<2^(k*0+1);simp)
 |n+1=>by
  simp only[ki]
  exact((Sm.pow h n).mul h).mono (iK (rm (k*n) 1 k))
def Rb(a c:List Int):Prop:=(a.length<=3/\c≠ []/\c.getLastD 0≠0)/\(∀x∈a,Sm 1000 x)/\∀x∈c,Sm 1000 x
def va:aM:=λvs Q=>a2 (λv0 v1=>bq v0 λa=>bq v1 λc=>Rb a c/\∀f:List Int,Q (.t3 (.l .I f) (.l .I (hU c a.length a (ip a c))) (.i (ip a c)))) vs
noncomputable abbrev Rt:cp:=[("check_bottom",m8),("zlead",dA),("zsub",xd),("zscale",xC),("zraise",nL)]
noncomputable abbrev xm(a c:List Int)(x:List Int×List Int×Int×Sl×Sl):Sg:=⟨[("a",.val (.l .I a)),("b",.val (.l .I c)),("many",.val (.i (ip a c))),("rest",.val (.l .I x.1)),("found",.val (.l .I x.2.1)),("left",.val (.i x.2.2.1)),("first",.val (.i (c.getLastD 0))),("number",x.2.2.2.1),("power",x.2.2.2.2),("more",.any)],[]⟩
inductive qk(a c:List Int)(n:Nat)(x:List Int×List Int×Int×Sl×Sl):Prop
 |mk (h1:x.1.length<=n) (h2:n<=3) (h3:Bd (kb (3-n)) x.1) (h4:Bd (kb (3-n)) x.2.1) (h5:0<=x.2.2.1/\x.2.2.1<=3/\(x.1.length:Int)-c.length+1<=x.2.2.1) (h6:hU c n x.1 x.2.2.1=hU c a.length a (ip a c))
def J9(c r f:List Int)(left M:Int)(Q:V->Prop):Prop:=(0<=left/\ce (c.getLastD 0) left.toNat=true)/\(f.length<=1000000/\∀x∈f,aq x (c.getLastD 0^left.toNat)=true)/\(r.length<=1000000/\∀x∈r,aq x (c.getLastD 0^left.toNat)=true)/\Q (V.t3 (V.l K.I (cn f (c.getLastD 0^left.toNat))) (V.l K.I (cn r (c.getLastD 0^left.toNat))) (V.i M))
def GI(c r f:List Int)(l:Int)(N:Prop):Prop:=(f.length<=1000000/\∀x∈f,aq x (c.getLastD 0)=true)/\((0<=(r.length:Int)-c.length/\(r.length:Int)-c.length<=1000)/\1<=1000)/\((cn f (c.getLastD 0)).length<=1000/\(hG [-l] ((r.length:Int)-c.length).toNat).length<=1000)/\
 (r.length<=1000000/\∀x∈r,aq x (c.getLastD 0)=true)/\(c.length<=1000000/\∀x∈c,aq x l=true)/\((0<=(r.length:Int)-c.length/\(r.length:Int)-c.length<=1000)/\(cn c l).length<=1000)/\((cn r (c.getLastD 0)).length<=1000/\(hG (cn c l) ((r.length:Int)-c.length).toNat).length<=1000)/\N
noncomputable abbrev qp(c r f:List Int)(left l:Int):List Int×List Int×Int×Sl×Sl:=(dT (cn r (c.getLastD 0)) ((hG (cn c l) ((r.length:Int)-c.length).toNat).map λx=> -x),dT (cn f (c.getLastD 0)) ((hG [-l] ((r.length:Int)-c.length).toNat).map λx=> -x),left-1,.val (.i l),.val (.i ((r.length:Int)-c.length)))
def FT(a c r f:List Int)(left:Int)(Q:V->Prop)(N:Sg->Prop):Prop:=aE (decide ((r.length:Int)≥c.length)) (a9 (cg r (-1)) λl=>GI c r f l (N (xm a c (qp c r f left l)))) (J9 c r f left (ip a c) Q)
theorem NE{a c r f:List Int}{left:Int}{n:Nat}{s1 s2:Sl}{Q:V->Prop}(o:c≠ [])(hc: ∀x∈c,Sm 1000 x)(hx:qk a c n (r,f,left,s1,s2))(p:r.length<c.length)(hq: ∀q,Q (V.t3 (V.l K.I q) (V.l K.I (hU c a.length a (ip a c))) (V.i (ip a c)))):J9 c r f left (ip a c) Q:=by
 refine aj λs=>?_
 obtain⟨i1,i2,m,k,⟨j,g,i7⟩,b⟩:=hx
 refine s ?_
 have hk:kb (3-n)<=30000:=aZ (DN (kg _ _)) (by decide)
 have d:=x8 hc o
 have e:left.toNat<=3:=Int.toNat_le.mpr g
 have sp:Sm 30000 (c.getLastD 0^left.toNat):=(d.pow left.toNat).mono (aZ (je (MK 1000 e)) (by decide))
 have ok: ∀{l:List Int},Bd (kb (3-n)) l->l.length<=1000000/\∀x∈l,aq x (c.getLastD 0^left.toNat)=true:=λh=>⟨aZ h.1 (by decide),λx hx=>Sm.ok (h.2 x hx) sp (aZ hk (by decide)) (by decide)⟩
 refine⟨⟨j,?_⟩,ok k,ok m,?_⟩
 ·unfold ce
  simp only[cO]
  exact⟨d.mono (by decide),MG (aZ e (by decide))⟩
 ·have b:hU c n r left=_:=b
  rw[BC p]at b
  rw[← b]at hq
  exact hq (cn f (c.getLastD 0^left.toNat))
theorem Wo{a c r f:List Int}{left:Int}{n:Nat}{s1 s2:Sl}{N:Prop}(p:c≠ [])(C:c.getLastD 0≠0)(hc: ∀x∈c,Sm 1000 x)(hx:qk a c n (r,f,left,s1,s2))(b:c.length<=r.length)(F: ∀k,k<n->qk a c k (qp c r f left (r.getLastD 0))->N):GI c r f (r.getLastD 0) N:=by
 refine aj λG=>?_
 obtain⟨i1,i2,e,m,⟨E,t,D⟩,s⟩:=hx
 refine G ?_
 dsimp only at i1 e m E t D s
 have hk:kb (3-n)<=30000:=aZ (DN (kg _ _)) (by decide)
 have g:=x8 hc p
 have c0:0<c.length:=rC.mpr p
 have i:r.length<=3:=aZ i1 i2
 have q:c.length<=3:=aZ b i
 have hr:r≠ []:=rC.mp (dr c0 b)
 have sl:Sm (kb (3-n)) (r.getLastD 0):=x8 e.2 hr
 have d:((r.length:Int)-c.length).toNat=r.length-c.length:=zR _ _
 have w:Bd 1000 c:=⟨aZ q (by decide),hc⟩
 have B:=wS m g
 have v:r.length-c.length<=3:=aZ (kg _ _) i
 have F2:Bd (kb (3-n)) (hG [-(r.getLastD 0)] (r.length-c.length)):=Kt ⟨by show 1<=40;decide,λx hx=>by simp only[bC.mp hx];exact sl.neg⟩ (aZ (kY v 1) (by decide))
 have z:=wS e g
 have y:=Kt (k:=r.length-c.length) (wS w sl) (aZ (FA (aZ RB q) v) (by decide))
 have u:0<=(r.length:Int)-c.length:=XX (dH.mpr b)
 have g1:(r.length:Int)-c.length<=1000:=bb (ME _ (jz _)) (dH.mpr (aZ i (by decide)))
 have ok: ∀{l:List Int},Bd (kb (3-n)) l->l.length<=1000000/\∀x∈l,aq x (c.getLastD 0)=true:=λh=>⟨aZ h.1 (by decide),λx hx=>Sm.ok (h.2 x hx) g (aZ hk (by decide)) (by decide)⟩
 refine⟨ok m,⟨⟨u,g1⟩,by decide⟩,⟨aZ B.1 (by decide),by rw[d];exact aZ F2.1 (by decide)⟩,ok e,⟨aZ q (by decide),λx hx=>Sm.ok (hc x hx) sl (by decide) (aZ hk (by decide))⟩,⟨⟨u,g1⟩,aZ (wS w sl).1 (by decide)⟩,⟨aZ z.1 (by decide),by rw[d];exact aZ y.1 (by decide)⟩,?_⟩
 have o:=Wc p C b
 induction n with
 |zero=>exact absurd (dr c0 (aZ b i1)) (jY 0)
 |succ k=>
  have A:kb (3-k)=2*kb (3-(k+1))+2002:=by rw[show 3-k=(3-(k+1))+1 from(wk (XH (rp k 1▸i2))).symm];rfl
  have j:dT (cn r (c.getLastD 0)) ((hG (cn c (r.getLastD 0)) ((r.length:Int)-c.length).toNat).map λx=> -x)=ji c r:=by unfold ji;rw[d]
  refine F k (lU k) ⟨?_,aZ (wd k) i2,?_,?_,⟨by dsimp only;lia,bb (ME _ (by decide)) t,?_⟩,?_⟩
  ·dsimp only[qp];rw[j];exact XW (aZ o i1)
  ·dsimp only[qp];rw[d];exact(GN z (H8 y)).mono (A▸PC _)
  ·dsimp only[qp];rw[d];exact(GN B (H8 F2)).mono (A▸Uy _)
  ·dsimp only[qp];rw[j];lia
  ·dsimp only[qp]
   rw[j]
   rw[← s]
   show _=(if r.length<c.length then _ else _)
   rw[if_neg (pT.mpr b)]
theorem PR{a c r f:List Int}{left:Int}{n:Nat}{s1 s2:Sl}{Q:V->Prop}(b:c≠ [])(g:c.getLastD 0≠0)(hc: ∀x∈c,Sm 1000 x)(hx:qk a c n (r,f,left,s1,s2))(hq: ∀q,Q (V.t3 (V.l K.I q) (V.l K.I (hU c a.length a (ip a c))) (V.i (ip a c)))):FT a c r f left Q λσ=>gC (xm a c) (qk a c) (aB Q) n .next σ:=by
 refine wc (λe=>?_) (λe=>?_)
 ·exact NE b hc hx (mX.mp (l8.mp (of_decide_eq_false e))) hq
 ·have d:c.length<=r.length:=dH.mp (of_decide_eq_true e)
  have hr:r≠ []:=rC.mp (dr (rC.mpr b) d)
  exact sw (Ck (x0:=0) hr) (Wo b g hc hx d λk hk h=>⟨k,_,hk,h,rfl⟩)
theorem UN(B:aP G){D:Nat}(hs:aG G D Rt):ao G (D+1) "pseudo" va:=eD B (i:=27) (by kernel_rfl) hs λvs Q h=>by
 apply bI h;intro v w h0
 apply bL h0;intro a h1
 apply bL h1;intro c g
 refine aj λq=>?_
 obtain⟨⟨⟨hl,b,o⟩,ha,hc⟩,hq⟩:=g
 refine q ?_
 have e:0<c.length:=rC.mpr b
 have m0:0<=ip a c:=Int.le_max_left ..
 have j:(a.length:Int)-c.length+1<=ip a c:=Int.le_max_right ..
 have m:ip a c<=3:=Int.max_le.mpr ⟨by decide,bb (ML (dH.mpr e) _) (bb (oF (Int.sub_add_cancel _ _)) (dH.mpr hl))⟩
 exact⟨rfl,λd Γ hd p s=>WS.whP (i:=27) (mt:=[]) (k:=3) p hd s (by kernel_rfl) (by kernel_rfl) (xm a c) (qk a c) a.length (a,[],ip a c,.any,.any) (aX (B:=(c≠ []/\aC.next=aC.next/\Sg.mk [("a",.val (.l .I a)),("b",.val (.l .I c)),("many",.val (.i (max 0 ((a.length:Int)-(c.length:Int)+1)))),("rest",.val (.l .I a)),("found",.val (.l .I [])),("left",.val (.i (max 0 ((a.length:Int)-(c.length:Int)+1)))),("first",.val (.i (eC c 0))),("number",Sl.any),("power",Sl.any),("more",Sl.any)] []=Sg.mk [("a",.val (.l .I a)),("b",.val (.l .I c)),("many",.val (.i (ip a c))),("rest",.val (.l .I a)),("found",.val (.l .I [])),("left",.val (.i (ip a c))),("first",.val (.i (eC c 0))),("number",Sl.any),("power",Sl.any),("more",Sl.any)] [])) (by kernel_rfl) ⟨b,rfl,rfl⟩) ⟨cR _,hl,⟨by show a.length<=40;trivial,λx hx=>(ha x hx).mono (DN (dx _))⟩,⟨dx _,λx hx=>nomatch hx⟩,⟨m0,m,j⟩,rfl⟩ λn x hx=>by
  obtain⟨r,f,left,s1,s2⟩:=x
  exact aX (B:=FT a c r f left Q λσ=>gC (xm a c) (qk a c) (aB Q) n .next σ) (by kernel_rfl) (PR b o hc hx hq)⟩
end
section
variable {G:aK} {d:Nat} {Γ:Fm} {S:St}
theorem BA(p q:Int):ct [p,q]=if q=0 then(if p=0 then []else [p])else [p,q]:=by
 have e2:ct [p,q]=if q=0 then ct [p]else [p,q]:=nJ [p] q
 have e1:ct [p]=if p=0 then ct []else [p]:=nJ [] p
 rw[e2,e1];rfl
theorem pg(p:Int):ct [p]=if p=0 then []else [p]:=nJ [] p
theorem Ad(p q:Int):ct [p,q,0]=ct [p,q]:=by have :=nJ [p,q] 0;simpa using this
theorem xw(p:Int):ct [p,0]=ct [p]:=by have :=nJ [p] 0;simpa using this
theorem Hs(l:List Int):cn l 1=l:=by unfold cn;simp
theorem IP(a b c x y z:Int):dT [a,b,c] [x,y,z]=ct [a+x,b+y,c+z]:=rfl
theorem C2(a b x y:Int):dT [a,b] [x,y]=ct [a+x,b+y]:=rfl
theorem W6(a b c:Int):dT [a,b,c] []=ct [a+0,b+0,c+0]:=rfl
theorem Hj(a b:Int):dT [a,b] []=ct [a+0,b+0]:=rfl
theorem PI{a0 a1 a2 b a:Int}(hb:a≠0):ji [b,a] [a0,a1,a2]=ct [a0*a,a1*a-b*a2]:=by
 show dT (cn [a0,a1,a2] a) ((hG (cn [b,a] a2) 1).map λx=> -x)=_
 unfold cn
 rw[if_neg hb]
 by_cases h:a2=0
 ·subst h
  rw[if_pos rfl]
  show dT [a0*a,a1*a,0*a] []=_
  simp only[W6,fV,cP,zT,iM,iM,iM,Ad]
 ·rw[if_neg h]
  show dT [a0*a,a1*a,a2*a] [-0, -(b*a2), -(a*a2)]=_
  rw[IP,show a2*a+ -(a*a2)=0 by rw[bT a2 a];lia,Ad]
  simp[rE]
theorem HK{a0 a1 b a:Int}(hb:a≠0):ji [b,a] [a0,a1]=ct [a0*a-b*a1]:=by
 show dT (cn [a0,a1] a) ((hG (cn [b,a] a1) 0).map λx=> -x)=_
 unfold cn
 rw[if_neg hb]
 by_cases h:a1=0
 ·subst h
  rw[if_pos rfl]
  show dT [a0*a,0*a] []=_
  simp only[Hj,fV,cP,zT,iM,iM,xw]
 ·rw[if_neg h]
  show dT [a0*a,a1*a] [-(b*a1), -(a*a1)]=_
  rw[C2,show a1*a+ -(a*a1)=0 by rw[bT a1 a];lia,xw]
  simp[rE]
theorem Sd{a0 a1 a:Int}(hb:a≠0):ji [a] [a0,a1]=ct [a0*a]:=by
 show dT (cn [a0,a1] a) ((hG (cn [a] a1) 1).map λx=> -x)=_
 unfold cn
 rw[if_neg hb]
 by_cases h:a1=0
 ·subst h
  rw[if_pos rfl]
  show dT [a0*a,0*a] []=_
  simp only[Hj,fV,iM,iM,xw]
 ·rw[if_neg h]
  show dT [a0*a,a1*a] [-0, -(a*a1)]=_
  rw[C2,show a1*a+ -(a*a1)=0 by rw[bT a1 a];lia,xw]
  simp
theorem Po{a0 a:Int}(hb:a≠0):ji [a] [a0]=[]:=by
 show dT (cn [a0] a) ((hG (cn [a] a0) 0).map λx=> -x)=_
 unfold cn
 rw[if_neg hb]
 by_cases h:a0=0
 ·subst h
  rw[if_pos rfl]
  show ct [0*a+0]=_
  rw[pg,if_pos (by simp)]
 ·rw[if_neg h]
  show ct [a0*a+ -(a*a0)]=_
  rw[pg,if_pos (by rw[bT a0 a];lia)]
noncomputable def a7(a0 a1 a2 b a:Int):Int:=a0*a*a-b*(a1*a-b*a2)
theorem TY{a0 a1 a2 b a:Int}(hb:a≠0):hU [b,a] 3 [a0,a1,a2] 2=ct [a7 a0 a1 a2 b a]:=by
 show hU [b,a] 2 (ji [b,a] [a0,a1,a2]) 1=_
 rw[PI hb]
 unfold a7
 generalize a1*a-b*a2=q
 rw[BA]
 by_cases hq:q=0
 ·subst hq
  rw[if_pos rfl,cP,zT]
  by_cases hp:a0*a=0
  ·rw[if_pos hp,hp,fV]
   show cn [] _=_
   rw[pg,if_pos rfl];unfold cn;split<;>rfl
  ·rw[if_neg hp,pg,if_neg (bH hp hb)]
   show cn [a0*a] (a^1)=_
   unfold cn
   rw[oG,if_neg hb];rfl
 ·rw[if_neg hq]
  show hU [b,a] 1 (ji [b,a] [a0*a,q]) 0=_
  rw[HK hb,BC (by rw[pg];split<;>simp)]
  show cn _ (a^0)=_
  rw[fp,Hs]
theorem Ts{a0 a1 b a:Int}(hb:a≠0):hU [b,a] 2 [a0,a1] 1=ct [a0*a-b*a1]:=by
 show hU [b,a] 1 (ji [b,a] [a0,a1]) 0=_
 rw[HK hb,BC (by rw[pg];split<;>simp)]
 show cn _ (a^0)=_
 rw[fp,Hs]
theorem R8{a0 a1 a:Int}(hb:a≠0):hU [a] 2 [a0,a1] 2=[]:=by
 show hU [a] 1 (ji [a] [a0,a1]) 1=_
 rw[Sd hb,pg]
 split
 ·show cn [] _=_
  unfold cn;split<;>rfl
 ·show hU [a] 0 (ji [a] [a0*a]) 0=_
  rw[Po hb]
  show cn [] _=_
  unfold cn;split<;>rfl
abbrev cz(a b c d e:Int):Prop:=(Sm 300 a/\Sm 300 b/\Sm 300 c)/\Sm 300 d/\Sm 300 e
theorem up{x:Int}(h:Sm 300 x):Sm 1000 x:=h.mono (by decide)
theorem GP{x:Int}:aq x 1=true:=by unfold aq;rw[show bk 1 64=true by decide];simp
theorem Gq{x:Int}(h:Sm 300 x):ce x 0=true:=by
 unfold ce;simp only[cO];exact⟨h.mono (by decide),rfl⟩
theorem JI(x:Int):aD [x]=(x.natAbs:Int):=by show((bp 0 x:Nat):Int)=_;rw[MM]
theorem Vx{r:Int}(h:r≠0):(-r).fdiv ((-r).natAbs:Int)= -(gw r):=by
 rw[jg]
 rcases oE h with h1|h1
 ·rw[FG h1,show((r.natAbs:Nat):Int)= -r by trivial,Int.fdiv_self (by trivial)];rfl
 ·simp only[FH h1,show((r.natAbs:Nat):Int)=r by trivial,show -r= -1*r by trivial,XY _ (by trivial)]
theorem P8{r:Int}(h:r≠0)(h1:¬ ((-r).natAbs:Int)>1): -r= -(gw r):=by
 rcases oE h with h2|h2
 ·rw[FG h2];omega
 ·rw[FH h2];omega
theorem CG{a0 a1 a2 b a:Int}(h:cz a0 a1 a2 b a):Sm 4000 (a7 a0 a1 a2 b a):=(Sm.sub ((h.1.1.mul h.2.2).mul h.2.2) (h.2.1.mul ((h.1.2.1.mul h.2.2).sub (h.2.1.mul h.1.2.2)))).mono (by decide)
def lA:aM:=λvs Q=>a2 (λv0 v1=>f7 v0 λa0 a1 a2=>c5 v1 λb a=>(a≠0/\cz a0 a1 a2 b a)/\∀f:List Int,nl [a7 a0 a1 a2 b a] λr=>Q (.t3 (.l .I f) (.l .I r) (.i 2))) vs
theorem Sz{D:Nat}(h:ao G D "pseudo" va):ao G D "pseudo" lA:=h.weak λvs Q h=>by
 apply bI h;intro v w h0
 apply gY h0;intro a0 a1 a2 h1
 apply dn h1;intro b0 b1 a
 refine aj λb=>?_
 obtain⟨⟨hb,⟨s0,s1,s2⟩,s3,s4⟩,hq⟩:=a
 refine b ?_
 refine⟨⟨⟨cR _,by simp,hb⟩,by simp[up s0,up s1,up s2],by simp[up s3,up s4]⟩,λf=>?_⟩
 have :=xc (hq f)
 rw[← TY hb]at this
 exact this
def ui:aM:=λvs Q=>a2 (λv0 v1=>c5 v0 λa0 a1=>c5 v1 λb a=>(a≠0/\cz a0 a1 b b a)/\∀f:List Int,nl [a0*a-b*a1] λr=>Q (.t3 (.l .I f) (.l .I r) (.i 1))) vs
theorem Ou{D:Nat}(h:ao G D "pseudo" va):ao G D "pseudo" ui:=h.weak λvs Q h=>by
 apply bI h;intro v w h0
 apply dn h0;intro a0 a1 h1
 apply dn h1;intro b0 b1 a
 refine aj λb=>?_
 obtain⟨⟨hb,⟨s0,s1,s2⟩,s3,s4⟩,hq⟩:=a
 refine b ?_
 refine⟨⟨⟨by show 2<=3;decide,by simp,hb⟩,by simp[up s0,up s1],by simp[up s3,up s4]⟩,λf=>?_⟩
 have :=xc (hq f)
 rw[← Ts hb]at this
 exact this
def ub:aM:=λvs Q=>a2 (λv0 v1=>c5 v0 λa0 a1=>m6 v1 λa=>(a≠0/\cz a0 a1 a a a)/\∀f:List Int,Q (.t3 (.l .I f) (.l .I []) (.i 2))) vs
theorem Sa{D:Nat}(h:ao G D "pseudo" va):ao G D "pseudo" ub:=h.weak λvs Q h=>by
 apply bI h;intro v w h0
 apply dn h0;intro a0 a1 h1
 apply qC h1;intro b0 a
 refine aj λb=>?_
 obtain⟨⟨hb,⟨s0,s1,s2⟩,s3,s4⟩,hq⟩:=a
 refine b ?_
 refine⟨⟨⟨by show 2<=3;decide,by simp,hb⟩,by simp[up s0,up s1],by simp[up s3]⟩,λf=>?_⟩
 have :=hq f
 rw[← R8 hb]at this
 exact this
def vh:aM:=λvs Q=>a2 (λv0 v1=>f7 v0 λa0 a1 a2=>c5 v1 λb a=>(a≠0/\cz a0 a1 a2 b a)/\nl [a7 a0 a1 a2 b a] λr=>Q (.l .I r)) vs
theorem Pv(B:aP G){D:Nat}(hs:aG G D [("pseudo",lA),("zdegree",cZ),("zlead",dA)]):ao G (D+1) "full_rest" vh:=bJ B (i:=31) (D:=D) (sp:=[("pseudo",lA),("zdegree",cZ),("zlead",dA)]) [] (by kernel_rfl) hs λvs Q h=>by
 apply bI h;intro v0 v1 h0
 apply gY h0;intro a0 a1 a2 h1
 apply dn h1;intro b a c
 obtain⟨hp,hq⟩:=c
 refine⟨rfl,bP (α:=gd 31 [("pseudo",lA),("zdegree",cZ),("zlead",dA)] [] [(.l .I [a0,a1,a2]),(.l .I [b,a])] (aB Q)) (β:=(a≠(0:Int)/\cz a0 a1 a2 b a)/\∀(f:List Int),aE (a7 a0 a1 a2 b a==(0:Int)) ((0:Nat)<=(1000000:Nat)/\∃F:K.D K.I->K.D K.I,(∀(x:K.D K.I),x∈[]->((0:Int)<=(0:Int)/\ce (eC [b,a] (0:Int)) (0:Nat)=true)/\aq x (eC [b,a] (0:Int)^(0:Nat))=true/\K.of K.I (V.i (x*eC [b,a] (0:Int)^(0:Nat)))=some (F x)/\[(al "lacking",Sl.val (V.i (0:Int))),(al "b",Sl.val (V.l K.I [b,a]))]=[(al "lacking",Sl.val (V.i (0:Int))),(al "b",Sl.val (V.l K.I [b,a]))])/\Q (V.l K.I [])) ((1:Nat)<=(1000000:Nat)/\∃F:K.D K.I->K.D K.I,(∀(x:K.D K.I),x∈[a7 a0 a1 a2 b a]->((0:Int)<=(0:Int)/\ce (eC [b,a] (0:Int)) (0:Nat)=true)/\aq x (eC [b,a] (0:Int)^(0:Nat))=true/\K.of K.I (V.i (x*eC [b,a] (0:Int)^(0:Nat)))=some (F x)/\[(al "lacking",Sl.val (V.i (0:Int))),(al "b",Sl.val (V.l K.I [b,a]))]=[(al "lacking",Sl.val (V.i (0:Int))),(al "b",Sl.val (V.l K.I [b,a]))])/\Q (V.l K.I [F (a7 a0 a1 a2 b a)]))) (by kernel_rfl) ?_⟩
 exact⟨hp,λf=>cw (λe=>⟨by decide,λx=>x,λx hx=>(nomatch hx),aE.t hq e⟩) (λe=>⟨by decide,λx=>x,λx hx=>⟨⟨by decide,Gq hp.2.2.2⟩,by rw[fp];exact GP,by rw[fp,dh];rfl,rfl⟩,aE.f hq e⟩)⟩
def uT:aM:=λvs Q=>a2 (λv0 v1=>c5 v0 λa0 a1=>c5 v1 λb a=>(a≠0/\cz a0 a1 b b a)/\nl [a0*a-b*a1] λr=>Q (.l .I r)) vs
theorem Op(B:aP G){D:Nat}(hs:aG G D [("pseudo",ui),("zdegree",cZ),("zlead",dA)]):ao G (D+1) "full_rest" uT:=bJ B (i:=31) (D:=D) (sp:=[("pseudo",ui),("zdegree",cZ),("zlead",dA)]) [] (by kernel_rfl) hs λvs Q h=>by
 apply bI h;intro v0 v1 h0
 apply dn h0;intro a0 a1 h1
 apply dn h1;intro b a c
 obtain⟨hp,hq⟩:=c
 refine⟨rfl,bP (α:=gd 31 [("pseudo",ui),("zdegree",cZ),("zlead",dA)] [] [(.l .I [a0,a1]),(.l .I [b,a])] (aB Q)) (β:=(a≠(0:Int)/\cz a0 a1 b b a)/\∀(f:List Int),aE (a0*a-b*a1==(0:Int)) ((0:Nat)<=(1000000:Nat)/\∃F:K.D K.I->K.D K.I,(∀(x:K.D K.I),x∈[]->((0:Int)<=(0:Int)/\ce (eC [b,a] (0:Int)) (0:Nat)=true)/\aq x (eC [b,a] (0:Int)^(0:Nat))=true/\K.of K.I (V.i (x*eC [b,a] (0:Int)^(0:Nat)))=some (F x)/\[(al "lacking",Sl.val (V.i (0:Int))),(al "b",Sl.val (V.l K.I [b,a]))]=[(al "lacking",Sl.val (V.i (0:Int))),(al "b",Sl.val (V.l K.I [b,a]))])/\Q (V.l K.I [])) ((1:Nat)<=(1000000:Nat)/\∃F:K.D K.I->K.D K.I,(∀(x:K.D K.I),x∈[a0*a-b*a1]->((0:Int)<=(0:Int)/\ce (eC [b,a] (0:Int)) (0:Nat)=true)/\aq x (eC [b,a] (0:Int)^(0:Nat))=true/\K.of K.I (V.i (x*eC [b,a] (0:Int)^(0:Nat)))=some (F x)/\[(al "lacking",Sl.val (V.i (0:Int))),(al "b",Sl.val (V.l K.I [b,a]))]=[(al "lacking",Sl.val (V.i (0:Int))),(al "b",Sl.val (V.l K.I [b,a]))])/\Q (V.l K.I [F (a0*a-b*a1)]))) (by kernel_rfl) ?_⟩
 exact⟨hp,λf=>cw (λe=>⟨by decide,λx=>x,λx hx=>(nomatch hx),aE.t hq e⟩) (λe=>⟨by decide,λx=>x,λx hx=>⟨⟨by decide,Gq hp.2.2.2⟩,by rw[fp];exact GP,by rw[fp,dh];rfl,rfl⟩,aE.f hq e⟩)⟩
def o0:aM:=λvs Q=>a2 (λv0 v1=>f7 v0 λa0 a1 a2=>c5 v1 λb a=>(a≠0/\cz a0 a1 a2 b a)/\nl [a7 a0 a1 a2 b a] λr=>Q (.l .I r)) vs
theorem WN(B:aP G){D:Nat}(hs:aG G D [("pseudo",lA)]):ao G (D+1) "zpseudo_rest" o0:=bJ B (i:=28) (D:=D) (sp:=[("pseudo",lA)]) [] (by kernel_rfl) hs λvs Q h=>by
 apply bI h;intro v0 v1 h0
 apply gY h0;intro a0 a1 a2 h1
 apply dn h1;intro b a c
 obtain⟨hp,hq⟩:=c
 refine⟨rfl,bP (α:=gd 28 [("pseudo",lA)] [] [(.l .I [a0,a1,a2]),(.l .I [b,a])] (aB Q)) (β:=(a≠0/\cz a0 a1 a2 b a)/\∀(f:List Int),aE (a7 a0 a1 a2 b a==0) (Q (V.l K.I [])) (Q (V.l K.I [a7 a0 a1 a2 b a]))) (by kernel_rfl) ?_⟩
 exact⟨hp,λf=>hq⟩
def o7:aM:=λvs Q=>a1 (λv0=>bq v0 λp=>(p.length<=1000000/\Sm 8000 (aD p))/\Q (.l .I (if aD p>1 then p.map λx=>x.fdiv (aD p)else p))) vs
theorem PP(B:aP G){D:Nat}(hs:aG G D [("zcontent",fQ)]):ao G (D+1) "lessened" o7:=bJ B (i:=52) (D:=D) (sp:=[("zcontent",fQ)]) [] (by kernel_rfl) hs λvs Q h=>by
 apply cu h;intro v0 h0
 apply bL h0;intro p a
 obtain⟨hp,hq⟩:=a
 refine⟨rfl,bP (α:=gd 52 [("zcontent",fQ)] [] [(.l .I p)] (aB Q)) (β:=aE (decide (aD p>1)) (aR p<=(1000000:Nat)/\∃F:K.D K.I->K.D K.I,(∀(x:K.D K.I),x∈p->(aD p≠0/\bk (aD p) (8000:Nat)=true)/\K.of K.I (V.i (bg x (aD p)))=some (F x)/\[(al "content",Sl.val (V.i (aD p)))]=[(al "content",Sl.val (V.i (aD p)))])/\Q (V.l K.I (bS F p))) (Q (V.l K.I p))) (by kernel_rfl) ?_⟩
 refine cw (λe=>?_) (λe=>?_)
 ·have e:=of_decide_eq_true e
  rw[if_pos e]at hq
  exact⟨hp.1,λx=>x.fdiv (aD p),λx hx=>⟨⟨by lia,hp.2⟩,rfl,rfl⟩,hq⟩
 ·rw[if_neg (of_decide_eq_false e)]at hq;exact hq
def BH:aM:=λvs Q=>a2 (λv0 v1=>f7 v0 λa0 a1 a2=>c5 v1 λb a=>(a≠0/\cz a0 a1 a2 b a)/\aE (a7 a0 a1 a2 b a==0) (Q (.l .I [])) (Q (.l .I [-(gw (a7 a0 a1 a2 b a))]))) vs
theorem QU(B:aP G){D:Nat}(hs:aG G D [("pseudo",lA),("zlead",dA),("zneg",lq),("lessened",o7)]):ao G (D+1) "next_of_row" BH:=bJ B (i:=53) (D:=D) (sp:=[("pseudo",lA),("zlead",dA),("zneg",lq),("lessened",o7)]) [] (by kernel_rfl) hs λvs Q h=>by
 apply bI h;intro v0 v1 h0
 apply gY h0;intro a0 a1 a2 h1
 apply dn h1;intro b a c
 obtain⟨hp,hq⟩:=c
 refine⟨rfl,bP (α:=gd 53 [("pseudo",lA),("zlead",dA),("zneg",lq),("lessened",o7)] [] [(.l .I [a0,a1,a2]),(.l .I [b,a])] (aB Q)) (β:=(a≠0/\cz a0 a1 a2 b a)/\∀(f:List Int),aE (a7 a0 a1 a2 b a==0) ((2:Int)≠0/\0<=1000000/\(0<=1000000/\Sm 8000 0)/\Q (V.l K.I [])) ((2:Int)≠0/\1<=1000000/\(1<=1000000/\Sm 8000 (aD [-a7 a0 a1 a2 b a]))/\Q (V.l K.I (if aD [-a7 a0 a1 a2 b a]>1 then [bg (-a7 a0 a1 a2 b a) (aD [-a7 a0 a1 a2 b a])]else [-a7 a0 a1 a2 b a])))) (by kernel_rfl) ?_⟩
 refine⟨hp,λf=>cw (λe=>⟨by decide,by decide,⟨by decide,Sm.zero⟩,hq.t e⟩) (λe=>?_)⟩
 have hr:a7 a0 a1 a2 b a≠0:=by simpa using e
 have sm:=CG hp.2
 have hq:=hq.f e
 generalize a7 a0 a1 a2 b a=r at hr sm hq ⊢
 refine⟨by decide,by show 1<=1000000;decide,⟨by show 1<=1000000;decide,?_⟩,?_⟩
 ·rw[JI];exact(sm.mono (by decide)).of_le (by omega)
 ·rw[JI]
  by_cases h1:((-r).natAbs:Int)>1
  ·rw[if_pos h1,Vx hr];exact hq
  ·rw[if_neg h1,P8 hr h1];exact hq
def CI:aM:=λvs Q=>a2 (λv0 v1=>c5 v0 λa0 a1=>m6 v1 λa=>(a≠0/\cz a0 a1 a a a)/\Q (.l .I [])) vs
theorem UP(B:aP G){D:Nat}(hs:aG G D [("pseudo",ub),("zlead",dA),("zneg",lq),("lessened",o7)]):ao G (D+1) "next_of_row" CI:=bJ B (i:=53) (D:=D) (sp:=[("pseudo",ub),("zlead",dA),("zneg",lq),("lessened",o7)]) [] (by kernel_rfl) hs λvs Q h=>by
 apply bI h;intro v0 v1 h0
 apply dn h0;intro a0 a1 h1
 apply qC h1;intro a b
 obtain⟨hp,hq⟩:=b
 refine⟨rfl,bP (α:=gd 53 [("pseudo",ub),("zlead",dA),("zneg",lq),("lessened",o7)] [] [(.l .I [a0,a1]),(.l .I [a])] (aB Q)) (β:=(a≠0/\cz a0 a1 a a a)/\∀(f:List Int),(2:Int)≠0/\0<=1000000/\(0<=1000000/\Sm 8000 0)/\Q (V.l K.I [])) (by kernel_rfl) ?_⟩
 exact⟨hp,λf=>⟨by decide,by decide,⟨by decide,Sm.zero⟩,hq⟩⟩
end
section
variable {G:aK} {d:Nat} {Γ:Fm} {S:St}
theorem rM:bk 1 8000=true:=(Sm.lit (by decide):Sm 64 1).mono (by decide)
theorem jH{x:Int}{k n:Nat}(h:Sm k x)(hk:k<=4096)(hn:n<=32768):ce x n=true:=by
 unfold ce;simp only[cO];exact⟨h.mono hk,MG hn⟩
theorem Gb: ∀{l:List Int} {g x:Int},x∈l->(l.foldl (λg x=>(bp g x:Int)) g)∣x
 |y::l,g,x,h=>by
  simp only[wm]
  have key: ∀(l:List Int) (g:Int),(l.foldl (λg x=>(bp g x:Int)) g)∣g:=λl=>by
   induction l with
   |nil=>exact λg=>FI g
   |cons z l a=>exact λg=>rF (a _) (zU ..)
  rcases bz.mp h with rfl|h
  ·exact rF (key l _) (zV ..)
  ·exact Gb h
theorem jm{l:List Int}{x:Int}(h:x∈l):aD l∣x:=Gb h
theorem mi{l:List Int}{x:Int}(h:x∈l)(hx:x≠0):aD l≠0:=λe=>hx (by have :=jm h;rw[e]at this;exact Int.zero_dvd.mp this)
theorem oP{l:List Int}{x:Int}{k:Nat}(h:x∈l)(hx:x≠0)(hs:Sm k x):Sm k (aD l):=hs.of_le (MJ (by lia) (XZ.mpr (jm h)))
theorem lE{g x:Int}(hg:g≠0)(h:g∣x): ∃y,x=g*y/\x.fdiv g=y:=by
 obtain⟨y,rfl⟩:=h
 exact⟨y,rfl,by rw[bT,XY _ hg]⟩
theorem JJ(g h a0 a1 a2 b a:Int):g^1*h^2*(1*a7 a0 a1 a2 b a)=a7 (g*a0) (g*a1) (g*a2) (h*b) (h*a):=by
 unfold a7;grind
theorem SS(g h a0 a1 b a:Int):g^1*h^1*(-1*(a0*a-b*a1))=(h*b)*(g*a1)-(g*a0)*(h*a):=by
 grind
def uR:aM:=λvs Q=>a3 (λv0 v1 v2=>f7 v0 λa0 a1 a2=>c5 v1 λb a=>br v2 λs=>((a≠0/\cz a0 a1 a2 b a)/\Sm 10 s)/\Q (.i (s*a7 a0 a1 a2 b a))) vs
theorem Oa(B:aP G){D:Nat}(hs:aG G D [("full_rest",vh),("zdegree",cZ),("zlead",dA),("divided",jr)]):ao G (D+1) "row_resultant" uR:=bJ B (i:=32) (D:=D) (sp:=[("full_rest",vh),("zdegree",cZ),("zlead",dA),("divided",jr)]) [] (by kernel_rfl) hs λvs Q h=>by
 apply mY h;intro v0 v1 v2 h0
 apply gY h0;intro a0 a1 a2 h1
 apply dn h1;intro b a h2
 apply dI h2;intro s c
 obtain⟨hp,hq⟩:=c
 refine⟨rfl,bP (α:=gd 32 [("full_rest",vh),("zdegree",cZ),("zlead",dA),("divided",jr)] [] [(.l .I [a0,a1,a2]),(.l .I [b,a]),(.i s)] (aB Q)) (β:=(2:Int)≠(0:Int)/\(a≠(0:Int)/\cz a0 a1 a2 b a)/\aE (a7 a0 a1 a2 b a==(0:Int)) (((0:Int)<=(1:Int)/\ce (1:Int) (1:Nat)=true)/\aq (1:Int) (1:Int)=true/\((0:Nat)<=(1000000:Nat)/\(1:Int)≠(0:Int)/\bk (1:Int) (8000:Nat)=true)/\((0:Int)<=(1:Int)/\ce (eC [b,a] (0:Int)) (1:Nat)=true)/\((0:Int)<=(0:Int)/\ce (1:Int) (0:Nat)=true)/\((1:Int)≠(0:Int)/\bk (1:Int) (8000:Nat)=true)/\Q (V.i (0:Int))) (((0:Int)<=(1:Int)/\ce (1:Int) (1:Nat)=true)/\aq (1:Int) (1:Int)=true/\((1:Nat)<=(1000000:Nat)/\(1:Int)≠(0:Int)/\bk (1:Int) (8000:Nat)=true)/\((0:Int)<=(1:Int)/\ce (eC [b,a] (0:Int)) (1:Nat)=true)/\((0:Int)<=(0:Int)/\ce (1:Int) (0:Nat)=true)/\((1:Int)≠(0:Int)/\bk (1:Int) (8000:Nat)=true)/\((0:Int)<=(1:Int)/\ce (bg (a7 a0 a1 a2 b a) (1:Int)) (1:Nat)=true)/\((0:Int)<=(0:Int)/\ce (bg (eC [b,a] (0:Int)^(1:Nat)) (1:Int)) (0:Nat)=true)/\(bg (eC [b,a] (0:Int)^(1:Nat)) (1:Int)^(0:Nat)≠(0:Int)/\bk (bg (eC [b,a] (0:Int)^(1:Nat)) (1:Int)^(0:Nat)) (8000:Nat)=true)/\aq s (bg (bg (a7 a0 a1 a2 b a) (1:Int)^(1:Nat)) (bg (eC [b,a] (0:Int)^(1:Nat)) (1:Int)^(0:Nat)))=true/\Q (V.i (s*bg (bg (a7 a0 a1 a2 b a) (1:Int)^(1:Nat)) (bg (eC [b,a] (0:Int)^(1:Nat)) (1:Int)^(0:Nat)))))) (by kernel_rfl) ?_⟩
 refine aj λd=>?_
 obtain⟨hb,hs⟩:=hp
 refine d ?_
 have r0:=CG hb.2
 have r1:ce (a7 a0 a1 a2 b a) 1=true:=jH r0 (by decide) (by decide)
 have r2:aq s (a7 a0 a1 a2 b a)=true:=Sm.ok hs r0 (by decide) (by decide)
 have r3:ce a 1=true:=jH hb.2.2.2 (by decide) (by decide)
 have r4:ce a 0=true:=jH hb.2.2.2 (by decide) (by decide)
 refine⟨by decide,hb,cw (λe=>?_) (λe=>?_)⟩
 ·have e:a7 a0 a1 a2 b a=0:=by simpa using e
  simp only[e,cP]at hq
  repeat' (first |exact hq|assumption|exact rM|refine⟨?_,?_⟩|decide|omega)
 ·simp only[MN,oG,fp]
  repeat' (first |exact hq|assumption|exact rM|refine⟨?_,?_⟩|decide|omega)
def vk:aM:=λvs Q=>a3 (λv0 v1 v2=>c5 v0 λa0 a1=>c5 v1 λb a=>br v2 λs=>((a≠0/\cz a0 a1 b b a)/\Sm 10 s)/\Q (.i (-s*(a0*a-b*a1)))) vs
theorem W8(B:aP G){D:Nat}(hs:aG G D [("full_rest",uT),("zdegree",cZ),("zlead",dA),("divided",jr)]):ao G (D+1) "row_resultant" vk:=bJ B (i:=32) (D:=D) (sp:=[("full_rest",uT),("zdegree",cZ),("zlead",dA),("divided",jr)]) [] (by kernel_rfl) hs λvs Q h=>by
 apply mY h;intro v0 v1 v2 h0
 apply dn h0;intro a0 a1 h1
 apply dn h1;intro b a h2
 apply dI h2;intro s c
 obtain⟨hp,hq⟩:=c
 refine⟨rfl,bP (α:=gd 32 [("full_rest",uT),("zdegree",cZ),("zlead",dA),("divided",jr)] [] [(.l .I [a0,a1]),(.l .I [b,a]),(.i s)] (aB Q)) (β:=(2:Int)≠(0:Int)/\(2:Int)≠(0:Int)/\(a≠(0:Int)/\cz a0 a1 b b a)/\aE (a0*a-b*a1==(0:Int)) (((0:Int)<=(0:Int)/\ce (1:Int) (0:Nat)=true)/\aq (1:Int) (1:Int)=true/\((0:Nat)<=(1000000:Nat)/\(1:Int)≠(0:Int)/\bk (1:Int) (8000:Nat)=true)/\Q (V.i (0:Int))) (((0:Int)<=(0:Int)/\ce (1:Int) (0:Nat)=true)/\aq (1:Int) (1:Int)=true/\((1:Nat)<=(1000000:Nat)/\(1:Int)≠(0:Int)/\bk (1:Int) (8000:Nat)=true)/\((0:Int)<=(1:Int)/\ce (bg (a0*a-b*a1) (1:Int)) (1:Nat)=true)/\((0:Int)<=(0:Int)/\ce (1:Int) (0:Nat)=true)/\((1:Int)≠(0:Int)/\bk (1:Int) (8000:Nat)=true)/\aq (-s) (bg (bg (a0*a-b*a1) (1:Int)^(1:Nat)) (1:Int))=true/\Q (V.i (-s*bg (bg (a0*a-b*a1) (1:Int)^(1:Nat)) (1:Int))))) (by kernel_rfl) ?_⟩
 refine aj λd=>?_
 obtain⟨hb,hs⟩:=hp
 refine d ?_
 have r0:Sm 4000 (a0*a-b*a1):=((hb.2.1.1.mul hb.2.2.2).sub (hb.2.2.1.mul hb.2.1.2.1)).mono (by decide)
 have r1:ce (a0*a-b*a1) 1=true:=jH r0 (by decide) (by decide)
 have r2:aq (-s) (a0*a-b*a1)=true:=Sm.ok hs.neg r0 (by decide) (by decide)
 refine⟨by decide,by decide,hb,cw (λe=>?_) (λe=>?_)⟩
 ·have e:a0*a-b*a1=0:=by simpa using e
  simp only[e,cP]at hq
  repeat' (first |exact hq|assumption|exact rM|refine⟨?_,?_⟩|decide|omega)
 ·simp only[MN,oG,fp]
  repeat' (first |exact hq|assumption|exact rM|refine⟨?_,?_⟩|decide|omega)
def AX:aM:=λvs Q=>a2 (λv0 v1=>f7 v0 λa0 a1 a2=>c5 v1 λb a=>((a≠0/\cz a0 a1 a2 b a)/\a2≠0)/\Q (.i (a7 a0 a1 a2 b a))) vs
theorem Nt(B:aP G){D:Nat}(hs:aG G D [("row_resultant",uR),("zdegree",cZ),("zcontent",fQ),("divided",jr)]):ao G (D+1) "resultant" AX:=bJ B (i:=33) (D:=D) (sp:=[("row_resultant",uR),("zdegree",cZ),("zcontent",fQ),("divided",jr)]) [] (by kernel_rfl) hs λvs Q h=>by
 apply bI h;intro v0 v1 h0
 apply gY h0;intro a0 a1 a2 h1
 apply dn h1;intro b a u
 obtain⟨hp,hq⟩:=u
 refine⟨rfl,bP (α:=gd 33 [("row_resultant",uR),("zdegree",cZ),("zcontent",fQ),("divided",jr)] [] [(.l .I [a0,a1,a2]),(.l .I [b,a])] (aB Q)) (β:=((0:Int)<=(1:Int)/\ce (aD [a0,a1,a2]) (1:Nat)=true)/\((0:Int)<=(2:Int)/\ce (aD [b,a]) (2:Nat)=true)/\aq (aD [a0,a1,a2]^(1:Nat)) (aD [b,a]^(2:Nat))=true/\((3:Nat)<=(1000000:Nat)/\aD [a0,a1,a2]≠(0:Int)/\bk (aD [a0,a1,a2]) (8000:Nat)=true)/\((2:Nat)<=(1000000:Nat)/\aD [b,a]≠(0:Int)/\bk (aD [b,a]) (8000:Nat)=true)/\((bg a (aD [b,a])≠(0:Int)/\cz (bg a0 (aD [a0,a1,a2])) (bg a1 (aD [a0,a1,a2])) (bg a2 (aD [a0,a1,a2])) (bg b (aD [b,a])) (bg a (aD [b,a])))/\Sm (10:Nat) (1:Int))/\aq (aD [a0,a1,a2]^(1:Nat)*aD [b,a]^(2:Nat)) ((1:Int)*a7 (bg a0 (aD [a0,a1,a2])) (bg a1 (aD [a0,a1,a2])) (bg a2 (aD [a0,a1,a2])) (bg b (aD [b,a])) (bg a (aD [b,a])))=true/\Q (V.i (aD [a0,a1,a2]^(1:Nat)*aD [b,a]^(2:Nat)*((1:Int)*a7 (bg a0 (aD [a0,a1,a2])) (bg a1 (aD [a0,a1,a2])) (bg a2 (aD [a0,a1,a2])) (bg b (aD [b,a])) (bg a (aD [b,a])))))) (by kernel_rfl) ?_⟩
 refine aj λw=>?_
 obtain⟨⟨f,⟨s0,s1,s2⟩,s3,s4⟩,k⟩:=hp
 have c:=mi (l:=[a0,a1,a2]) (x:=a2) (by simp) k
 have e:=mi (l:=[b,a]) (x:=a) (by simp) f
 have d:=oP (l:=[a0,a1,a2]) (x:=a2) (by simp) k s2
 have hs:=oP (l:=[b,a]) (x:=a) (by simp) f s4
 obtain⟨s,e0,f0⟩:=lE c (jm (l:=[a0,a1,a2]) (x:=a0) (by simp))
 obtain⟨r,e1,f1⟩:=lE c (jm (l:=[a0,a1,a2]) (x:=a1) (by simp))
 obtain⟨q,e2,f2⟩:=lE c (jm (l:=[a0,a1,a2]) (x:=a2) (by simp))
 obtain⟨p,v,n⟩:=lE e (jm (l:=[b,a]) (x:=b) (by simp))
 obtain⟨j,o,f4⟩:=lE e (jm (l:=[b,a]) (x:=a) (by simp))
 refine w ?_
 simp only[f0,f1,f2,n,f4]
 have t0:Sm 300 s:=f0▸s0.fdiv
 have t1:Sm 300 r:=f1▸s1.fdiv
 have t2:Sm 300 q:=f2▸s2.fdiv
 have t3:Sm 300 p:=n▸s3.fdiv
 have m:Sm 300 j:=f4▸s4.fdiv
 generalize aD [a0,a1,a2]=g at *
 generalize aD [b,a]=h at *
 have t:j≠0:=λz=>f (by simp only[o,z,cP])
 have r0:=CG ⟨⟨t0,t1,t2⟩,t3,m⟩
 refine⟨⟨by decide,jH d (by decide) (by decide)⟩,⟨by decide,jH hs (by decide) (by decide)⟩,Sm.ok (d.pow 1) (hs.pow 2) (by decide) (by decide),⟨by decide,c,d.mono (by decide)⟩,⟨by decide,e,hs.mono (by decide)⟩,⟨⟨t,⟨t0,t1,t2⟩,t3,m⟩,Sm.iff.mpr (by decide)⟩,Sm.ok ((d.pow 1).mul (hs.pow 2)) ((Sm.lit (x:=1) (by decide)).mul r0) (by decide) (by decide),?_⟩
 simp only[JJ, ← e0, ← e1, ← e2, ← v, ← o]
 exact hq
def Bl:aM:=λvs Q=>a2 (λv0 v1=>c5 v0 λa0 a1=>c5 v1 λb a=>((a≠0/\cz a0 a1 b b a)/\a1≠0)/\Q (.i (b*a1-a0*a))) vs
theorem U4(B:aP G){D:Nat}(hs:aG G D [("row_resultant",vk),("zdegree",cZ),("zcontent",fQ),("divided",jr)]):ao G (D+1) "resultant" Bl:=bJ B (i:=33) (D:=D) (sp:=[("row_resultant",vk),("zdegree",cZ),("zcontent",fQ),("divided",jr)]) [] (by kernel_rfl) hs λvs Q h=>by
 apply bI h;intro v0 v1 h0
 apply dn h0;intro a0 a1 h1
 apply dn h1;intro b a t
 obtain⟨hp,hq⟩:=t
 refine⟨rfl,bP (α:=gd 33 [("row_resultant",vk),("zdegree",cZ),("zcontent",fQ),("divided",jr)] [] [(.l .I [a0,a1]),(.l .I [b,a])] (aB Q)) (β:=((0:Int)<=(1:Int)/\ce (aD [a0,a1]) (1:Nat)=true)/\((0:Int)<=(1:Int)/\ce (aD [b,a]) (1:Nat)=true)/\aq (aD [a0,a1]^(1:Nat)) (aD [b,a]^(1:Nat))=true/\((2:Nat)<=(1000000:Nat)/\aD [a0,a1]≠(0:Int)/\bk (aD [a0,a1]) (8000:Nat)=true)/\((2:Nat)<=(1000000:Nat)/\aD [b,a]≠(0:Int)/\bk (aD [b,a]) (8000:Nat)=true)/\((bg a (aD [b,a])≠(0:Int)/\cz (bg a0 (aD [a0,a1])) (bg a1 (aD [a0,a1])) (bg b (aD [b,a])) (bg b (aD [b,a])) (bg a (aD [b,a])))/\Sm (10:Nat) (1:Int))/\aq (aD [a0,a1]^(1:Nat)*aD [b,a]^(1:Nat)) ((-1:Int)*(bg a0 (aD [a0,a1])*bg a (aD [b,a])-bg b (aD [b,a])*bg a1 (aD [a0,a1])))=true/\Q (V.i (aD [a0,a1]^(1:Nat)*aD [b,a]^(1:Nat)*((-1:Int)*(bg a0 (aD [a0,a1])*bg a (aD [b,a])-bg b (aD [b,a])*bg a1 (aD [a0,a1])))))) (by kernel_rfl) ?_⟩
 refine aj λv=>?_
 obtain⟨⟨j,⟨s0,s1,_⟩,s3,s4⟩,o⟩:=hp
 have f:=mi (l:=[a0,a1]) (x:=a1) (by simp) o
 have e:=mi (l:=[b,a]) (x:=a) (by simp) j
 have c:=oP (l:=[a0,a1]) (x:=a1) (by simp) o s1
 have hs:=oP (l:=[b,a]) (x:=a) (by simp) j s4
 obtain⟨n,e0,f0⟩:=lE f (jm (l:=[a0,a1]) (x:=a0) (by simp))
 obtain⟨m,e1,f1⟩:=lE f (jm (l:=[a0,a1]) (x:=a1) (by simp))
 obtain⟨k,u,q⟩:=lE e (jm (l:=[b,a]) (x:=b) (by simp))
 obtain⟨d,r,f4⟩:=lE e (jm (l:=[b,a]) (x:=a) (by simp))
 refine v ?_
 simp only[f0,f1,q,f4]
 have t0:Sm 300 n:=f0▸s0.fdiv
 have t1:Sm 300 m:=f1▸s1.fdiv
 have t3:Sm 300 k:=q▸s3.fdiv
 have p:Sm 300 d:=f4▸s4.fdiv
 generalize aD [a0,a1]=g at *
 generalize aD [b,a]=h at *
 have s:d≠0:=λz=>j (by simp only[r,z,cP])
 have r0:Sm 1300 (n*d-k*m):=((t0.mul p).sub (t3.mul t1)).mono (by decide)
 refine⟨⟨by decide,jH c (by decide) (by decide)⟩,⟨by decide,jH hs (by decide) (by decide)⟩,Sm.ok (c.pow 1) (hs.pow 1) (by decide) (by decide),⟨by decide,f,c.mono (by decide)⟩,⟨by decide,e,hs.mono (by decide)⟩,⟨⟨s,⟨t0,t1,t3⟩,t3,p⟩,Sm.iff.mpr (by decide)⟩,Sm.ok ((c.pow 1).mul (hs.pow 1)) ((Sm.lit (x:= -1) (by decide)).mul r0) (by decide) (by decide),?_⟩
 simp only[SS, ← e0, ← e1, ← u, ← r]
 exact hq
end
section
variable {G:aK} {d:Nat} {Γ:Fm} {S:St}
def pj:aM:=λvs Q=>a3 (λv0 v1 v2=>br v0 λfr=>br v1 λst=>br v2 λhi=>True/\aE (st==0) (Q (.i hi)) ((0<=st/\ce fr st.toNat=true)/\(0<=st-1/\ce hi (st-1).toNat=true)/\(hi^(st-1).toNat≠0/\bk (hi^(st-1).toNat) 8000=true)/\Q (.i ((fr^st.toNat).fdiv (hi^(st-1).toNat))))) vs
theorem Pw(B:aP G):ao G 1 "next_height" pj:=bJ B (i:=43) (D:=0) (sp:=[]) [] (by kernel_rfl) (λp h=>nomatch h) λvs Q h=>by
 apply mY h;intro v0 v1 v2 h0
 apply dI h0;intro fr h1
 apply dI h1;intro st h2
 apply dI h2;intro hi a
 obtain⟨hp,hq⟩:=a
 refine⟨rfl,bP (α:=gd 43 [] [] [(.i fr),(.i st),(.i hi)] (aB Q)) (β:=aE (st==0) (Q (V.i hi)) ((0<=st/\ce fr st.toNat=true)/\(0<=st-1/\ce hi (st-1).toNat=true)/\(hi^bY (st-1)≠0/\bk (hi^bY (st-1)) 8000=true)/\Q (V.i (bg (fr^bY st) (hi^bY (st-1)))))) (by kernel_rfl) ?_⟩
 exact hq
def u3:aM:=λvs Q=>a2 (λv0 v1=>f7 v0 λa0 a1 a2=>c5 v1 λb a=>(a≠0/\cz a0 a1 a2 b a)/\nl [a7 a0 a1 a2 b a] λr=>Q (.l .P (if r=[]then [[a0,a1,a2],[b,a]]else [[a0,a1,a2],[b,a],r]))) vs
theorem Sc(B:aP G){D:Nat}(hs:aG G D [("zpseudo_rest",o0),("zdivided",ll),("zlead",dA),("next_height",pj)]):ao G (D+1) "subresultants" u3:=bJ B (i:=44) (D:=D) (sp:=[("zpseudo_rest",o0),("zdivided",ll),("zlead",dA),("next_height",pj)]) ["row"] (by kernel_rfl) hs λvs Q h=>by
 apply bI h;intro v0 v1 h0
 apply gY h0;intro a0 a1 a2 h1
 apply dn h1;intro b a d
 obtain⟨hp,hq⟩:=d
 refine⟨rfl,bP (α:=gd 44 [("zpseudo_rest",o0),("zdivided",ll),("zlead",dA),("next_height",pj)] ["row"] [(.l .I [a0,a1,a2]),(.l .I [b,a])] (aB Q)) (β:=(a≠(0:Int)/\cz a0 a1 a2 b a)/\aE (a7 a0 a1 a2 b a==(0:Int)) (Q (V.l K.P [[a0,a1,a2],[b,a]])) (((0:Int)<=(1:Int)/\ce (1:Int) (1:Nat)=true)/\aq (1:Int) (1:Int)=true/\((1:Nat)<=(1000000:Nat)/\(1:Int)≠(0:Int)/\bk (1:Int) (8000:Nat)=true)/\(2:Nat)< (10000000:Nat)/\True/\((0:Int)<=(1:Int)/\ce (eC [b,a] (0:Int)) (1:Nat)=true)/\((0:Int)<=(0:Int)/\ce (1:Int) (0:Nat)=true)/\((1:Int)≠(0:Int)/\bk (1:Int) (8000:Nat)=true)/\Q (V.l K.P [[a0,a1,a2],[b,a],[bg (a7 a0 a1 a2 b a) (1:Int)]]))) (by kernel_rfl) ?_⟩
 have c:ce a 1=true:=jH hp.2.2.2 (by decide) (by decide)
 refine⟨hp,cw (λe=>hq.t e) (λe=>?_)⟩
 rw[MN]
 exact⟨⟨by decide,by decide⟩,by decide,⟨by decide,by decide,rM⟩,by decide,trivial,⟨by decide,c⟩,⟨by decide,by decide⟩,⟨by decide,rM⟩,hq.f e⟩
def ue:aM:=λvs Q=>a2 (λv0 v1=>c5 v0 λa0 a1=>m6 v1 λa=>True/\Q (.l .P [[a0,a1],[a]])) vs
theorem Ro(B:aP G){D:Nat}(hs:aG G D [("zpseudo_rest",o0),("zdivided",ll),("zlead",dA),("next_height",pj)]):ao G (D+1) "subresultants" ue:=bJ B (i:=44) (D:=D) (sp:=[("zpseudo_rest",o0),("zdivided",ll),("zlead",dA),("next_height",pj)]) ["row"] (by kernel_rfl) hs λvs Q h=>by
 apply bI h;intro v0 v1 h0
 apply dn h0;intro a0 a1 h1
 apply qC h1;intro a b
 obtain⟨hp,hq⟩:=b
 refine⟨rfl,bP (α:=gd 44 [("zpseudo_rest",o0),("zdivided",ll),("zlead",dA),("next_height",pj)] ["row"] [(.l .I [a0,a1]),(.l .I [a])] (aB Q)) (β:=Q (V.l K.P [[a0,a1],[a]])) (by kernel_rfl) ?_⟩
 exact hq
end
section
variable {G:aK} {d:Nat} {Γ:Fm} {S:St}
theorem BN{x:Int}(h:Sm 300 x):bk (-x) 8000=true:=h.neg.mono (by decide)
def vg:aM:=λvs Q=>a2 (λv0 v1=>c5 v0 λa0 a1=>m6 v1 λa=>((a1≠0/\a≠0)/\Sm 300 a/\Sm 300 a1)/\∀x:Int,Q (.l .I [x])) vs
theorem WT(B:aP G){D:Nat}(hs:aG G D [("zprimitive",sN),("zcontent",fQ),("zscale",jo),("gcd",jB),("subresultants",ue)]):ao G (D+1) "zgcd" vg:=bJ B (i:=45) (D:=D) (sp:=[("zprimitive",sN),("zcontent",fQ),("zscale",jo),("gcd",jB),("subresultants",ue)]) [] (by kernel_rfl) hs λvs Q h=>by
 apply bI h;intro v0 v1 h0
 apply dn h0;intro a0 a1 h1
 apply qC h1;intro a c
 obtain⟨hp,hq⟩:=c
 refine⟨rfl,bP (α:=gd 45 [("zprimitive",sN),("zcontent",fQ),("zscale",jo),("gcd",jB),("subresultants",ue)] [] [(.l .I [a0,a1]),(.l .I [a])] (aB Q)) (β:=(2<=1000000/\([a0,a1]≠ []->aD [a0,a1]≠0/\bk (aD [a0,a1]) 8000=true/\bk (-aD [a0,a1]) 8000=true))/\(1<=1000000/\([a]≠ []->aD [a]≠0/\bk (aD [a]) 8000=true/\bk (-aD [a]) 8000=true))/\True/\Q (V.l K.I [(↑(bp (aD [a0,a1]) (aD [a])):Int)])) (by kernel_rfl) ?_⟩
 refine aj λd=>?_
 obtain⟨⟨h1,h2⟩,s0,s1⟩:=hp
 refine d ?_
 have g1:=oP (l:=[a0,a1]) (x:=a1) (by simp) h1 s1
 have g2:=oP (l:=[a]) (x:=a) (by simp) h2 s0
 exact⟨⟨by decide,λb=>⟨mi (x:=a1) (by simp) h1,g1.mono (by decide),BN g1⟩⟩,⟨by decide,λb=>⟨mi (x:=a) (by simp) h2,g2.mono (by decide),BN g2⟩⟩,trivial,hq _⟩
def wK:aM:=λvs Q=>a1 (λv0=>c5 v0 λa0 a1=>(a1≠0/\Sm 200 a0/\Sm 200 a1)/\Q (.l .I [a0,a1])) vs
theorem WF(B:aP G){D:Nat}(hs:aG G D [("zgcd",vg),("zderive",jp),("zdegree",cZ)]):ao G (D+1) "simple_part" wK:=bJ B (i:=51) (D:=D) (sp:=[("zgcd",vg),("zderive",jp),("zdegree",cZ)]) [] (by kernel_rfl) hs λvs Q h=>by
 apply cu h;intro v0 h0
 apply dn h0;intro a0 a1 a
 obtain⟨hp,hq⟩:=a
 refine⟨rfl,bP (α:=gd 51 [("zgcd",vg),("zderive",jp),("zdegree",cZ)] [] [(.l .I [a0,a1])] (aB Q)) (β:=(2<=1000/\∀(x:Int×Int),x∈[(0,a0),(1,a1)]->aq x.2 x.1=true)/\((a1≠0/\a1*1≠0)/\Sm 300 (a1*1)/\Sm 300 a1)/\∀(x:Int),Q (V.l K.I [a0,a1])) (by kernel_rfl) ?_⟩
 refine aj λb=>?_
 obtain⟨h1,s0,s1⟩:=hp
 refine b ?_
 refine⟨⟨by decide,λx hx=>?_⟩,⟨⟨h1,by rw[dh];exact h1⟩,by rw[dh];exact s1.mono (by decide),s1.mono (by decide)⟩,λz_=>hq⟩
 rcases bz.mp hx with rfl|hx
 ·exact Sm.ok s0 (Sm.lit (x:=0) (by decide)) (by decide) (by decide)
 ·obtain rfl:=bC.mp hx
  exact Sm.ok s1 (Sm.lit (x:=1) (by decide)) (by decide) (by decide)
end
section
variable {G:aK} {d:Nat} {Γ:Fm} {S:St}
noncomputable abbrev aT(n:Int):Int:=b2 (decide (n>0))-b2 (decide (n<0))
def t9:aM:=λvs Q=>a2 (λv0 v1=>f7 v0 λa0 a1 a2=>du v1 λx=>((Sm 2000 x.1/\Sm 2000 x.2)/\Sm 300 a0/\Sm 300 a1/\Sm 300 a2)/\Q (.i (aT (((0*x.1+a2*1)*x.1+a1*(1*x.2))*x.1+a0*(1*x.2*x.2))))) vs
theorem CQ(B:aP G){D:Nat}(hs:aG G D [("sign_of",jG)]):ao G (D+1) "value_sign" t9:=bJ B (i:=48) (D:=D) (sp:=[("sign_of",jG)]) [] (by kernel_rfl) hs λvs Q h=>by
 apply bI h;intro v0 v1 h0
 apply gY h0;intro a0 a1 a2 h1
 apply dY h1;intro x a
 obtain⟨hp,hq⟩:=a
 refine⟨rfl,bP (α:=gd 48 [("sign_of",jG)] [] [(.l .I [a0,a1,a2]),(rV x)] (aB Q)) (β:=aq 0 x.1=true/\aq a2 1=true/\aq 1 x.2=true/\aq (0*ai x+a2*1) x.1=true/\aq a1 (1*ak x)=true/\aq (1*ak x) x.2=true/\aq ((0*ai x+a2*1)*ai x+a1*(1*ak x)) x.1=true/\aq a0 (1*ak x*ak x)=true/\aq (1*ak x*ak x) x.2=true/\Q (V.i (b2 (decide (((0*ai x+a2*1)*ai x+a1*(1*ak x))*ai x+a0*(1*ak x*ak x)>0))-b2 (decide (((0*ai x+a2*1)*ai x+a1*(1*ak x))*ai x+a0*(1*ak x*ak x)<0))))) (by kernel_rfl) ?_⟩
 refine aj λb=>?_
 obtain⟨⟨s1,s2⟩,s3,s4,s5⟩:=hp
 refine b ?_
 repeat' (first |exact hq|assumption|refine⟨_,rfl,?_⟩|refine⟨?_,?_⟩|apply Sm.ok|apply Sm.mul|apply Sm.add|apply Sm.sub|apply Sm.neg|exact Sm.lit (by decide)|decide|omega|rfl)
def uG:aM:=λvs Q=>a2 (λv0 v1=>c5 v0 λa0 a1=>du v1 λx=>((Sm 2000 x.1/\Sm 2000 x.2)/\Sm 300 a0/\Sm 300 a1)/\Q (.i (aT ((0*x.1+a1*1)*x.1+a0*(1*x.2))))) vs
theorem Bw(B:aP G){D:Nat}(hs:aG G D [("sign_of",jG)]):ao G (D+1) "value_sign" uG:=bJ B (i:=48) (D:=D) (sp:=[("sign_of",jG)]) [] (by kernel_rfl) hs λvs Q h=>by
 apply bI h;intro v0 v1 h0
 apply dn h0;intro a0 a1 h1
 apply dY h1;intro x a
 obtain⟨hp,hq⟩:=a
 refine⟨rfl,bP (α:=gd 48 [("sign_of",jG)] [] [(.l .I [a0,a1]),(rV x)] (aB Q)) (β:=aq 0 x.1=true/\aq a1 1=true/\aq 1 x.2=true/\aq (0*ai x+a1*1) x.1=true/\aq a0 (1*ak x)=true/\aq (1*ak x) x.2=true/\Q (V.i (b2 (decide ((0*ai x+a1*1)*ai x+a0*(1*ak x)>0))-b2 (decide ((0*ai x+a1*1)*ai x+a0*(1*ak x)<0))))) (by kernel_rfl) ?_⟩
 refine aj λb=>?_
 obtain⟨⟨s1,s2⟩,s3,s4⟩:=hp
 refine b ?_
 repeat' (first |exact hq|assumption|refine⟨_,rfl,?_⟩|refine⟨?_,?_⟩|apply Sm.ok|apply Sm.mul|apply Sm.add|apply Sm.sub|apply Sm.neg|exact Sm.lit (by decide)|decide|omega|rfl)
def Xj:aM:=λvs Q=>a2 (λv0 v1=>m6 v0 λa0=>du v1 λx=>((Sm 2000 x.1/\Sm 2000 x.2)/\Sm 300 a0)/\Q (.i (aT (0*x.1+a0*1)))) vs
theorem G0(B:aP G){D:Nat}(hs:aG G D [("sign_of",jG)]):ao G (D+1) "value_sign" Xj:=bJ B (i:=48) (D:=D) (sp:=[("sign_of",jG)]) [] (by kernel_rfl) hs λvs Q h=>by
 apply bI h;intro v0 v1 h0
 apply qC h0;intro a0 h1
 apply dY h1;intro x a
 obtain⟨hp,hq⟩:=a
 refine⟨rfl,bP (α:=gd 48 [("sign_of",jG)] [] [(.l .I [a0]),(rV x)] (aB Q)) (β:=aq 0 x.1=true/\aq a0 1=true/\aq 1 x.2=true/\Q (V.i (b2 (decide (0*ai x+a0*1>0))-b2 (decide (0*ai x+a0*1<0))))) (by kernel_rfl) ?_⟩
 refine aj λb=>?_
 obtain⟨⟨s1,s2⟩,s3⟩:=hp
 refine b ?_
 repeat' (first |exact hq|assumption|refine⟨_,rfl,?_⟩|refine⟨?_,?_⟩|apply Sm.ok|apply Sm.mul|apply Sm.add|apply Sm.sub|apply Sm.neg|exact Sm.lit (by decide)|decide|omega|rfl)
end
section
variable {G:aK} {d:Nat} {Γ:Fm} {S:St}
def z7:aM:=λvs Q=>a1 (λv0=>bq v0 λf=>((f.length<=1000000/\f≠ [])/\f.getLastD 0≠0/\Sm 8000 (f.getLastD 0))/\Q (.i (2+(maxL (f.map λx=>(x.natAbs:Int))).fdiv ((f.getLastD 0).natAbs:Int)))) vs
theorem Px(B:aP G){D:Nat}(hs:aG G D [("zlead",dA)]):ao G (D+1) "root_bound" z7:=bJ B (i:=57) (D:=D) (sp:=[("zlead",dA)]) [] (by kernel_rfl) hs λvs Q h=>by
 apply cu h;intro v0 h0
 apply bL h0;intro f a
 obtain⟨hp,hq⟩:=a
 refine⟨rfl,bP (α:=gd 57 [("zlead",dA)] [] [(.l .I f)] (aB Q)) (β:=aR f<=1000000/\∃F:K.D K.I->K.D K.I,(∀(x:K.D K.I),x∈f->K.of K.I (V.i (↑(cq x):Int))=some (F x)/\([]:SL)=[])/\bS F f≠ []/\((↑(cq (eC f 0)):Int)≠0/\bk (↑(cq (eC f 0)):Int) 8000=true)/\Q (V.i (2+bg (maxL (bS F f)) (↑(cq (eC f 0)):Int)))) (by kernel_rfl) ?_⟩
 exact⟨hp.1.1,λx=>(x.natAbs:Int),λx hx=>⟨rfl,rfl⟩,by simpa using hp.1.2,⟨by have :=hp.2.1;lia,hp.2.2.of_le (by lia)⟩,hq⟩
end
section
variable {G:aK} {d:Nat} {Γ:Fm} {S:St}
def Uk(a c:List Int)(Q:List Int->Prop):Prop:=match a,c with
 | [a0,a1,a2],[c0,c1,c2]=>a2=c2/\aE (a1-c1==0) (a0=c0/\Q []) (Q [a0-c0,a1-c1])
 | [a0,a1],[c0,c1]=>a1=c1/\a0=c0/\Q []
 |_,_=>False
def pH:aM:=λvs Q=>a2 (λv0 v1=>bq v0 λa=>bq v1 λc=>Uk a c λl=>Q (.l .I l)) vs
theorem Sy{D:Nat}(h:ao G D "zsub" xd):ao G D "zsub" pH:=h.weak λvs Q h=>by
 apply bI h;intro v w h0
 apply bL h0;intro a h1
 apply bL h1;intro c hq
 try clear h1
 try clear h0
 try clear h
 revert c
 revert a
 refine l4 (λb h=>h.elim) (λb b h=>h.elim) (λa0 a1=>?_) (λa0 a1 a2=>?_) (λb b b b b h=>h.elim) (λb b b b b b b h=>h.elim)
 rotate_left
 ·refine l4 (λh=>h.elim) (λb h=>h.elim) (λb b h=>h.elim) (λc0 c1 c2 hq=>?_) (λb b b b h=>h.elim) (λb b b b b b h=>h.elim)
  obtain⟨e2,hq⟩:=hq
  subst e2
  refine⟨⟨by show 3<=1000;decide,by show 3<=1000;decide⟩,?_⟩
  show Q (.l .I (dT [a0,a1,a2] [-c0, -c1, -a2]))
  simp only[IP,FF,Ad,BA]
  by_cases e:a1+ -c1=0
  ·obtain⟨e0,hq⟩:=hq.t (by simpa [rE]using e)
   rw[if_pos e,if_pos (by lia)];exact hq
  ·rw[if_neg e, ← rE, ← rE]
   exact hq.f (by simpa [rE]using e)
 ·refine l4 (λh=>h.elim) (λb h=>h.elim) (λc0 c1 hq=>?_) (λb b b h=>h.elim) (λb b b b h=>h.elim) (λb b b b b b h=>h.elim)
  obtain⟨e1,e0,hq⟩:=hq
  subst e1 e0
  refine⟨⟨by show 2<=1000;decide,by show 2<=1000;decide⟩,?_⟩
  show Q (.l .I (dT [a0,a1] [-a0, -a1]))
  simp only[C2,FF,FF];exact hq
def nG:aM:=λvs Q=>a2 (λv0 v1=>f7 v0 λa0 a1 a2=>c5 v1 λb a=>True/\∃c1 c2:Int,(a≠0/\c2≠0/\Sm 300 b/\Sm 300 a/\Sm 300 c2/\Sm 300 c1)/\(a2=a*c2/\a1=a*c1+b*c2/\a0=b*c1)/\Q (.l .I [c1,c2])) vs
def GE(a0 a2 b a f1 q2 c q1 r1:Int)(Q:V->Prop):Prop:=[b,a]≠ []/\((-9223372036854775808:Int)<=(2:Int)/\(2:Int)< (9223372036854775808:Int)/\(2:Nat)<=(16777216:Nat))/\a≠(0:Int)/\aE (c !=(0:Int)) (Q V.no) ((a≠(0:Int)/\bk a (8000:Nat)=true)/\((0:Int)<=(1:Int)/\(1:Int)< (2:Int))/\((2:Nat)<=(1000000:Nat)/\aq b (q2)=true/\aq a (q2)=true)/\aE (q2==(0:Int)) ((((0:Int)<=(1:Int)/\(1:Int)<=(1000:Int))/\(0:Nat)<=(1000:Nat))/\False) ((((0:Int)<=(1:Int)/\(1:Int)<=(1000:Int))/\(2:Nat)<=(1000:Nat))/\a2=a*q2/\aE (f1==(0:Int)) (a0=(0:Int)/\(2:Nat)<=(1000000:Nat)/\aE (q2==(0:Int)) (Q (V.l K.I [])) (Q (V.l K.I [(0:Int),q2]))) (a≠(0:Int)/\aE (r1 !=(0:Int)) (Q V.no) ((a≠(0:Int)/\bk a (8000:Nat)=true)/\((0:Int)<=(0:Int)/\(0:Int)< (2:Int))/\((2:Nat)<=(1000000:Nat)/\aq b (q1)=true/\aq a (q1)=true)/\aE (q1==(0:Int)) ((((0:Int)<=(0:Int)/\(0:Int)<=(1000:Int))/\(0:Nat)<=(1000:Nat))/\False) ((((0:Int)<=(0:Int)/\(0:Int)<=(1000:Int))/\(2:Nat)<=(1000:Nat))/\f1=a*q1/\a0-(0:Int)=b*q1/\(2:Nat)<=(1000000:Nat)/\aE (q2==(0:Int)) (aE (q1==(0:Int)) (Q (V.l K.I [])) (Q (V.l K.I [q1]))) (Q (V.l K.I [q1,q2])))))))
theorem Tb{b a c1 c2:Int}{Q:V->Prop}(hb:a≠0)(hc:c2≠0)(s0:Sm 300 b)(s1:Sm 300 a)(s2:Sm 300 c2)(s3:Sm 300 c1)(hq:Q (.l .I [c1,c2])):GE (b*c1) (a*c2) b a (a*c1) c2 0 c1 0 Q:=by
 have c:bk a 8000=true:=s1.mono (by decide)
 have ok: ∀{x y:Int},Sm 300 x->Sm 300 y->aq x y=true:=λh1 h2=>Sm.ok h1 h2 (by decide) (by decide)
 refine⟨by simp,by decide,hb,wc (λe=>⟨⟨hb,c⟩,by decide,⟨by decide,ok s0 s2,ok s1 s2⟩,cw (λe=>absurd (by simpa using e) hc) λe=>⟨by decide,rfl,cw (λe=>?_) (λd=>⟨hb,wc (λe=>⟨⟨hb,c⟩,by decide,⟨by decide,ok s0 s3,ok s1 s3⟩,cw (λe2=>?_) λe=>⟨by decide,rfl,zT _,by decide,cw (λe=>absurd (by simpa using e) hc) λf=>hq⟩⟩) λe=>by cases e⟩)⟩⟩) λe=>by cases e⟩
 ·have h0:c1=0:=(fq.mp (eq_of_beq e)).resolve_left hb
  rw[h0]at hq ⊢
  exact⟨cP _,by decide,cw (λe=>absurd (by simpa using e) hc) λf=>hq⟩
 ·rw[eq_of_beq e2,cP]at d
  cases d
theorem VN(B:aP G){D:Nat}(hs:aG G D [("check_bottom",m8),("zsub",pH),("zraise",nL),("zscale",jo),("ztrim",pe)]):ao G (D+1) "zexact" nG:=bJ B (i:=26) (D:=D) (sp:=[("check_bottom",m8),("zsub",pH),("zraise",nL),("zscale",jo),("ztrim",pe)]) ["found"] (by kernel_rfl) hs λvs Q h=>by
 apply bI h;intro v0 v1 h0
 apply gY h0;intro a0 a1 a2 h1
 apply dn h1;intro b a c
 obtain⟨hp,hq⟩:=c
 refine⟨rfl,bP (α:=gd 26 [("check_bottom",m8),("zsub",pH),("zraise",nL),("zscale",jo),("ztrim",pe)] ["found"] [(.l .I [a0,a1,a2]),(.l .I [b,a])] (aB Q)) (β:=GE a0 a2 b a (a1-b*bg a2 a) (bg a2 a) (p5 a2 a) (bg (a1-b*bg a2 a) a) (p5 (a1-b*bg a2 a) a) Q) (by kernel_rfl) ?_⟩
 refine aj λd=>?_
 obtain⟨c1,c2,⟨hb,hc,s0,s1,s2,s3⟩,⟨e2,e1,e0⟩,hq⟩:=hq
 refine d ?_
 simp only[e2,FJ _ hb,MO,e1,MD,FJ _ hb,MO,e0]
 exact Tb hb hc s0 s1 s2 s3 hq
def Bs:aM:=λvs Q=>a2 (λv0 v1=>c5 v0 λa0 a1=>c5 v1 λb a=>True/\∃c:Int,(a≠0/\c≠0/\Sm 300 b/\Sm 300 a/\Sm 300 c)/\(a1=a*c/\a0=b*c)/\Q (.l .I [c])) vs
theorem Nv(B:aP G){D:Nat}(hs:aG G D [("check_bottom",m8),("zsub",pH),("zraise",nL),("zscale",jo),("ztrim",pe)]):ao G (D+1) "zexact" Bs:=bJ B (i:=26) (D:=D) (sp:=[("check_bottom",m8),("zsub",pH),("zraise",nL),("zscale",jo),("ztrim",pe)]) ["found"] (by kernel_rfl) hs λvs Q h=>by
 apply bI h;intro v0 v1 h0
 apply dn h0;intro a0 a1 h1
 apply dn h1;intro b a g
 obtain⟨hp,hq⟩:=g
 refine⟨rfl,bP (α:=gd 26 [("check_bottom",m8),("zsub",pH),("zraise",nL),("zscale",jo),("ztrim",pe)] ["found"] [(.l .I [a0,a1]),(.l .I [b,a])] (aB Q)) (β:=[b,a]≠ []/\((-9223372036854775808:Int)<=(1:Int)/\(1:Int)< (9223372036854775808:Int)/\(1:Nat)<=(16777216:Nat))/\a≠(0:Int)/\aE (p5 a1 a !=(0:Int)) (Q V.no) ((a≠(0:Int)/\bk a (8000:Nat)=true)/\((0:Int)<=(0:Int)/\(0:Int)< (1:Int))/\((2:Nat)<=(1000000:Nat)/\aq b (bg a1 a)=true/\aq a (bg a1 a)=true)/\aE (bg a1 a==(0:Int)) ((((0:Int)<=(0:Int)/\(0:Int)<=(1000:Int))/\(0:Nat)<=(1000:Nat))/\False) ((((0:Int)<=(0:Int)/\(0:Int)<=(1000:Int))/\(2:Nat)<=(1000:Nat))/\a1=a*bg a1 a/\a0=b*bg a1 a/\(1:Nat)<=(1000000:Nat)/\aE (bg a1 a==(0:Int)) (Q (V.l K.I [])) (Q (V.l K.I [bg a1 a]))))) (by kernel_rfl) ?_⟩
 refine aj λj=>?_
 obtain⟨c,⟨hb,hc,s0,s1,s2⟩,⟨rfl,rfl⟩,hq⟩:=hq
 refine j ?_
 have f:bg (a*c) a=c:=FJ _ hb
 have d:p5 (a*c) a=0:=MO ..
 simp only[f,d]
 exact⟨by simp,by decide,hb,wc (λe=>⟨⟨hb,s1.mono (by decide)⟩,by decide,⟨by decide,Sm.ok s0 s2 (by decide) (by decide),Sm.ok s1 s2 (by decide) (by decide)⟩,cw (λe=>absurd (by simpa using e) hc) λe=>⟨by decide,trivial,trivial,by decide,cw (λe=>absurd (by simpa using e) hc) λz_=>hq⟩⟩) λe=>by cases e⟩
end
section
theorem qc{n m k:Int}(h:bp n m=1)(hd:n∣k*m):n∣k:=by
 have e:=Int.gcd_mul_left_right_of_gcd_eq_one (k:=k) h
 have e2:bp n (k*m)=n.natAbs:=Int.gcd_eq_natAbs_left hd
 rw[e2]at e
 have :((n.natAbs:Nat):Int)∣k:=by rw[e];exact zV ..
 exact MQ.mp this
structure b7(x:Int×Int):Prop where
 pos:0<x.2
 cop:bp x.1 x.2=1
theorem b7.uniq{a b:Int×Int}(ha:b7 a)(hb:b7 b)(h:a.1*b.2=b.1*a.2):a=b:=by
 obtain⟨a1,a2⟩:=a
 obtain⟨d,b2⟩:=b
 obtain⟨pa,ca⟩:=ha
 obtain⟨pb,c⟩:=hb
 dsimp only at h pa ca pb c
 have d1:a2∣b2:=qc (m:=a1) (by rw[FK];exact ca) ⟨d,by simp only[bT,h,bT]⟩
 have f:b2∣a2:=qc (m:=d) (by rw[FK];exact c) ⟨a1,by rw[bT, ← h,bT]⟩
 have e:a2=b2:=Int.dvd_antisymm (by trivial) (by trivial) d1 f
 subst e
 rw[X0 (by trivial) h]
theorem jj{t c:Int}(hc:c≠0): ∃g,t=g*(aL t c).1/\c=g*(aL t c).2/\(0<c->0<g)/\b7 (aL t c):=by
 have hg:=SK (t:=t) hc
 have h1:(gN t c).natAbs=bp t c:=by unfold gN;split<;>simp
 have d1:gN t c∣t:=MQ.mp (by rw[h1];exact zU ..)
 have k:gN t c∣c:=MQ.mp (by rw[h1];exact zV ..)
 refine aj λl=>?_
 obtain⟨d,f,i⟩:=lE hg d1
 obtain⟨a,b,j⟩:=lE hg k
 refine l ?_
 have hs:(0<c->0<gN t c)/\(c<0->gN t c<0):=by
  have :=x7 (t:=t) hc
  unfold gN;constructor<;>intro h<;>split<;>trivial
 unfold aL
 rw[i,j]
 refine⟨gN t c,f,b,hs.1,?_,?_⟩
 ·show 0<a
  rcases oE hc with h|h
  ·have :=hs.2 h
   rcases gU a 0 with q|q|q
   ·have :=X7 this q;trivial
   ·rw[q,cP]at b;trivial
   ·exact q
  ·have :=hs.1 h
   rcases gU a 0 with q|q|q
   ·have :=tV this q;trivial
   ·rw[q,cP]at b;trivial
   ·exact q
 ·show bp d a=1
  have e:bp (gN t c*d) (gN t c*a)=(gN t c).natAbs*bp d a:=FL ..
  rw[← f, ← b,h1]at e
  have :0<bp t c:=by have :=x7 (t:=t) hc;trivial
  exact(Nat.eq_of_mul_eq_mul_left this (by rw[FM];exact e)).symm
theorem jP{t c:Int}{x:Int×Int}(hc:c≠0)(hx:b7 x)(h:t*x.2=x.1*c):aL t c=x:=by
 obtain⟨g,e1,e2,_,hn⟩:=jj (t:=t) hc
 refine hn.uniq hx ?_
 have hg:g≠0:=λz=>hc (by rw[e2,z,fV])
 refine k9 hg ?_
 rw[← eK, ← e1,h]
 conv=>lhs;rw[e2]
 rw[tX]
noncomputable def dy(k:Nat)(m:Int):Int×Int:=aL m (2^k)
theorem uZ(k:Nat):(2:Int)^k≠0:=Int.pow_ne_zero (by decide)
theorem nB(k:Nat):0< (2:Int)^k:=FN (by decide)
theorem u7{a b:Int}(h1:1<=a)(hb:0<=b):b<=a*b:=bb (oF (kS b).symm) (fI h1 hb)
theorem fu(k:Nat)(m:Int): ∃g,0<g/\m=g*(dy k m).1/\2^k=g*(dy k m).2/\b7 (dy k m):=by
 refine aj λa=>?_
 obtain⟨g,e1,e2,hg,hn⟩:=jj (t:=m) (uZ k)
 refine a ?_
 exact⟨g,hg (nB k),e1,e2,hn⟩
theorem HC(k:Nat)(m:Int):dy (k+1) (2*m)=dy k m:=by
 refine aj λa=>?_
 obtain⟨g,_,e1,e2,hn⟩:=fu k m
 refine a ?_
 refine jP (uZ _) hn ?_
 simp only[ki]
 generalize dy k m=x at *
 rw[e1,e2];grind
theorem s8(m:Int):dy 0 m=(m,1):=jP (by decide) ⟨p7,by simp⟩ (rfl)
theorem Tv(k:Nat)(m n:Int):aL ((aL ((dy k m).1*(dy k n).2+(dy k n).1*(dy k m).2) ((dy k m).2*(dy k n).2)).1*1) ((aL ((dy k m).1*(dy k n).2+(dy k n).1*(dy k m).2) ((dy k m).2*(dy k n).2)).2*2)=dy (k+1) (m+n):=by
 refine aj λa=>?_
 obtain⟨g,hg,e1,e2,hx⟩:=fu k m
 obtain⟨h,hh,f1,f2,i⟩:=fu k n
 refine a ?_
 generalize dy k m=x at *
 generalize dy k n=y at *
 have d:x.2*y.2≠0:=bH (by have :=hx.pos;trivial) (by have :=i.pos;trivial)
 refine aj λa=>?_
 obtain⟨u,f,c,_,hz⟩:=jj (t:=x.1*y.2+y.1*x.2) d
 refine a ?_
 generalize aL (x.1*y.2+y.1*x.2) (x.2*y.2)=z at *
 have b:z.2*2≠0:=bH (by have :=hz.pos;trivial) (by decide)
 refine aj λa=>?_
 obtain⟨w,w1,e,hw,hn⟩:=fu (k+1) (m+n)
 refine a ?_
 have j:u≠0:=λq=>d (by simp only[c,q,fV])
 refine jP b hn ?_
 generalize dy (k+1) (m+n)=v at *
 simp only[ki]at hw
 have key:w*(u*(g*h))*(z.1*1*v.2)=w*(u*(g*h))*(v.1*(z.2*2)):=by
  have a1:(u*z.1)*(g*h)*(w*v.2)=(x.1*y.2+y.1*x.2)*(g*h)*(2^k*2):=by simp only[← f, ← hw]
  have a2:(w*v.1)*(u*z.2)*(g*h)*2=(m+n)*(x.2*y.2)*(g*h)*2:=by simp only[← e, ← c]
  have a3:(x.1*y.2+y.1*x.2)*(g*h)=m*2^k+n*2^k:=by
   have :(x.1*y.2+y.1*x.2)*(g*h)=(g*x.1)*(h*y.2)+(h*y.1)*(g*x.2):=by grind
   simp only[this, ← e1, ← f1, ← e2, ← f2]
  have o:(x.2*y.2)*(g*h)=2^k*2^k:=by
   have :(x.2*y.2)*(g*h)=(g*x.2)*(h*y.2):=by grind
   simp only[this, ← e2, ← f2]
  have l:w*(u*(g*h))*(z.1*1*v.2)=(u*z.1)*(g*h)*(w*v.2):=by grind
  have b2:w*(u*(g*h))*(v.1*(z.2*2))=(w*v.1)*(u*z.2)*(g*h)*2:=by grind
  simp only[l,b2,a1,a2,a3]
  have :(m+n)*(x.2*y.2)*(g*h)*2=(m+n)*((x.2*y.2)*(g*h))*2:=by grind
  simp only[this,o];grind
 exact k9 (bH (by trivial) (bH j (bH (by trivial) (by trivial)))) key
theorem Hc(k:Nat):Sm (k+1) (2^k):=by
 rw[Sm.iff,Int.natAbs_pow]
 exact Nat.pow_lt_pow_right (by decide) (lU k)
theorem wJ{k j:Nat}{m:Int}(h:Sm j m):Sm j (dy k m).1:=h.ratN1
theorem ul(k:Nat)(m:Int):Sm (k+1) (dy k m).2:=(Hc k).ratN2
noncomputable def F2(c0 c1 n d:Int):Int:=c1*n+c0*d
noncomputable def F3(a0 a1 a2 n d:Int):Int:=a2*n*n+a1*n*d+a0*d*d
theorem lr{g v:Int}(hg:0<g):aT (g*v)=aT v:=by
 have h1:(g*v>0)=(v>0):=propext ⟨λh=>by rcases gU v 0 with q|q|q;exact absurd (tV hg q) (by lia);(simp only[q,cP]at h;lia);exact q,λh=>da hg h⟩
 have h2:(g*v<0)=(v<0):=propext ⟨λh=>by rcases gU v 0 with q|q|q;exact q;(simp only[q,cP]at h;lia);exact absurd (da hg q) (by lia),λh=>tV hg h⟩
 unfold aT
 simp only[h1,h2]
theorem BE(c0 c1:Int)(k:Nat)(m:Int):aT ((0*(dy k m).1+c1*1)*(dy k m).1+c0*(1*(dy k m).2))=aT (F2 c0 c1 m (2^k)):=by
 refine aj λa=>?_
 obtain⟨g,hg,e1,e2,_⟩:=fu k m
 refine a ?_
 generalize dy k m=x at *
 rw[← lr hg]
 congr 1
 all_goals(unfold F2;simp only[e1,e2];grind)
theorem CZ(a0 a1 a2:Int)(k:Nat)(m:Int):aT (((0*(dy k m).1+a2*1)*(dy k m).1+a1*(1*(dy k m).2))*(dy k m).1+a0*(1*(dy k m).2*(dy k m).2))=aT (F3 a0 a1 a2 m (2^k)):=by
 refine aj λa=>?_
 obtain⟨g,hg,e1,e2,_⟩:=fu k m
 refine a ?_
 generalize dy k m=x at *
 rw[← lr (da hg hg)]
 congr 1
 all_goals(unfold F3;simp only[e1,e2];grind)
theorem P6{a0 a1 a2:Int}{x:Int×Int}(hx:b7 x)(h:F3 a0 a1 a2 x.1 x.2=0): ∃c1 c2,a2=x.2*c2/\a1=x.2*c1+ -x.1*c2/\a0= -x.1*c1:=by
 obtain⟨n,d⟩:=x
 obtain⟨hp,hc⟩:=hx
 dsimp only at *
 unfold F3 at h
 rw[FK]at hc
 have hd:d≠0:=by trivial
 have d1:d∣a2*n*n:=⟨-(a1*n+a0*d),by grind⟩
 obtain⟨c2,rfl⟩:=qc hc (qc hc d1)
 have h2:c2*n*n+a1*n+a0*d=0:=k9 hd (by grind)
 have a:d∣(a1+n*c2)*n:=⟨-a0,by grind⟩
 obtain⟨c1,e1⟩:=qc hc a
 refine⟨c1,c2,rfl,by grind,?_⟩
 exact k9 hd (by(have :a1=d*c1-n*c2:=by grind);subst this;grind)
theorem Gs{c0 c1:Int}{x:Int×Int}(hx:b7 x)(h:F2 c0 c1 x.1 x.2=0): ∃c,c1=x.2*c/\c0= -x.1*c:=by
 obtain⟨n,d⟩:=x
 obtain⟨hp,hc⟩:=hx
 dsimp only at *
 unfold F2 at h
 rw[FK]at hc
 have hd:d≠0:=by trivial
 have d1:d∣c1*n:=⟨-c0,by grind⟩
 obtain⟨c,rfl⟩:=qc hc d1
 exact⟨c,rfl,k9 hd (by grind)⟩
end
section
variable {G:aK} {d:Nat} {Γ:Fm} {S:St}
theorem K.of_R{v:V}{x:Int×Int}(h:K.of .R v=some x):v=rV x:=V.asR_eq h
theorem K.of_W{v:V}{x:(Int×Int)×(Int×Int)}(h:K.of .W v=some x):v=K.toV .W x:=by
 obtain⟨p,h1,h⟩:=iL.mp h
 obtain⟨a,h2,h⟩:=iL.mp h
 obtain⟨c,h3,h⟩:=iL.mp h
 cases h
 simp only[V.as2_eq h1,V.asR_eq h2,V.asR_eq h3];rfl
def nE(v:V)(k:(Int×Int)×(Int×Int)->Prop):Prop:=a9 (K.of .W v) k
theorem VV{v:V}{k:(Int×Int)×(Int×Int)->Prop}(h:nE v k): ∃x,v=K.toV .W x/\k x:=by
 obtain⟨x,e,q⟩:=dS h
 exact⟨x,K.of_W e,q⟩
theorem qD{v:V}{k:(Int×Int)×(Int×Int)->Prop}{C:V->Prop}(h:nE v k)(c: ∀x,k x->C (K.toV .W x)):C v:=by
 obtain⟨x,rfl,q⟩:=VV h;exact c x q
structure Dk(k:Nat)(m:Int):Prop where
 k:k<=400
 m:Sm 400 m
theorem Dk.s1{k:Nat}{m:Int}(h:Dk k m):Sm 2000 (dy k m).1:=(wJ h.m).mono (by decide)
theorem Dk.s2{k:Nat}{m:Int}(h:Dk k m):Sm 2000 (dy k m).2:=(ul k m).mono (by have :=h.k;lia)
theorem Dk.ne{k:Nat}{m:Int}:(dy k m).2≠0:=by obtain⟨_,_,_,_,h⟩:=fu k m;have :=h.pos;trivial
theorem NH:Sm 2000 1:=(Sm.lit (by decide)).mono (by decide)
theorem Us:Sm 2000 2:=(Sm.lit (by decide)).mono (by decide)
theorem O5{k:Nat}{m n:Int}(h1:Dk k m)(h2:Dk k n):(aL ((dy k m).1*(dy k n).2+(dy k n).1*(dy k m).2) ((dy k m).2*(dy k n).2)).2≠0/\Sm 2000 (aL ((dy k m).1*(dy k n).2+(dy k n).1*(dy k m).2) ((dy k m).2*(dy k n).2)).1/\Sm 2000 (aL ((dy k m).1*(dy k n).2+(dy k n).1*(dy k m).2) ((dy k m).2*(dy k n).2)).2:=by
 have hk:=h1.k
 have a1:=wJ (k:=k) h1.m
 have a2:=ul k m
 have a:=wJ (k:=k) h2.m
 have b2:=ul k n
 obtain⟨_,_,_,_,hn⟩:=jj (t:=(dy k m).1*(dy k n).2+(dy k n).1*(dy k m).2) (bH (Dk.ne (k:=k) (m:=m)) (Dk.ne (k:=k) (m:=n)))
 refine⟨by have :=hn.pos;trivial,Sm.ratN1 (((a1.mul (ul k n)).add (a.mul a2)).mono (by trivial)),Sm.ratN2 ((a2.mul b2).mono (by trivial))⟩
def nf(F:Int->Int->Int)(k:Nat)(m n:Int)(Q:(Int×Int)×(Int×Int)->Prop):Prop:=
 aE (aT (F (m+n) (2^(k+1)))==0) (Q (dy (k+1) (m+n),dy (k+1) (m+n))) (aE (aT (F (m+n) (2^(k+1)))==aT (F m (2^k))) (Q (dy (k+1) (m+n),dy k n)) (Q (dy k m,dy (k+1) (m+n))))
def kx:aM:=λvs Q=>a2 (λv0 v1=>du v0 λa=>du v1 λc=>True/\∃(k:Nat) (m n:Int),(a=dy k m/\c=dy k n/\Dk k m/\Dk k n)/\Q (rV (dy (k+1) (m+n)))) vs
theorem QX(B:aP G){D:Nat}(hs:aG G D [("radd",uY),("rmul",r9)]):ao G (D+1) "middle" kx:=bJ B (i:=61) (D:=D) (sp:=[("radd",uY),("rmul",r9)]) [] (by kernel_rfl) hs λvs Q h=>by
 apply bI h;intro v0 v1 h0
 apply dY h0;intro a h1
 apply dY h1;intro c e
 obtain⟨hp,hq⟩:=e
 refine⟨rfl,bP (α:=gd 61 [("radd",uY),("rmul",r9)] [] [(rV a),(rV c)] (aB Q)) (β:=((ak a≠0/\ak c≠0)/\(Sm 2000 a.1/\Sm 2000 a.2)/\Sm 2000 c.1/\Sm 2000 c.2)/\((ak (aL (ai a*ak c+ai c*ak a) (ak a*ak c))≠0/\(2:Int)≠0)/\(Sm 2000 (aL (ai a*ak c+ai c*ak a) (ak a*ak c)).1/\Sm 2000 (aL (ai a*ak c+ai c*ak a) (ak a*ak c)).2)/\Sm 2000 1/\Sm 2000 (2:Int))/\Q (V.t2 (V.i (aL (ai (aL (ai a*ak c+ai c*ak a) (ak a*ak c))*1) (ak (aL (ai a*ak c+ai c*ak a) (ak a*ak c))*(2:Int))).1) (V.i (aL (ai (aL (ai a*ak c+ai c*ak a) (ak a*ak c))*1) (ak (aL (ai a*ak c+ai c*ak a) (ak a*ak c))*(2:Int))).2))) (by kernel_rfl) ?_⟩
 refine aj λf=>?_
 obtain⟨k,m,n,⟨rfl,rfl,h1,h2⟩,hq⟩:=hq
 obtain⟨n1,d,b⟩:=O5 h1 h2
 refine f ?_
 rw[← Tv]at hq
 exact⟨⟨⟨Dk.ne,Dk.ne⟩,⟨h1.s1,h1.s2⟩,h2.s1,h2.s2⟩,⟨⟨n1,by decide⟩,⟨d,b⟩,NH,Us⟩,hq⟩
def rZ:aM:=λvs Q=>a2 (λv0 v1=>c5 v0 λc0 c1=>nE v1 λiv=>True/\∃(k:Nat) (m n:Int),(iv=(dy k m,dy k n)/\(Dk k m/\Dk k n/\Dk (k+1) (m+n))/\Sm 300 c0/\Sm 300 c1)/\nf (λn d=>F2 c0 c1 n d) k m n λI=>Q (K.toV .W I)) vs
theorem UB(B:aP G){D:Nat}(hs:aG G D [("middle",kx),("value_sign",uG)]):ao G (D+1) "halved" rZ:=bJ B (i:=68) (D:=D) (sp:=[("middle",kx),("value_sign",uG)]) [] (by kernel_rfl) hs λvs Q h=>by
 apply bI h;intro v0 v1 h0
 apply dn h0;intro c0 c1 h1
 apply qD h1;intro iv a
 obtain⟨hp,hq⟩:=a
 refine⟨rfl,bP (α:=gd 68 [("middle",kx),("value_sign",uG)] [] [(.l .I [c0,c1]),(K.toV .W iv)] (aB Q)) (β:=True/\∃k m n,((ai iv.1,ak iv.1)=dy k m/\(ai iv.2,ak iv.2)=dy k n/\Dk k m/\Dk k n)/\((Sm 2000 (dy (k+1) (m+n)).1/\Sm 2000 (dy (k+1) (m+n)).2)/\Sm 300 c0/\Sm 300 c1)/\aE (aT ((0*ai (dy (k+1) (m+n))+c1*1)*ai (dy (k+1) (m+n))+c0*(1*ak (dy (k+1) (m+n))))==0) (Q (V.t2 (V.t2 (V.i (dy (k+1) (m+n)).1) (V.i (dy (k+1) (m+n)).2)) (V.t2 (V.i (dy (k+1) (m+n)).1) (V.i (dy (k+1) (m+n)).2)))) (((Sm 2000 iv.1.1/\Sm 2000 iv.1.2)/\Sm 300 c0/\Sm 300 c1)/\aE (aT ((0*ai (dy (k+1) (m+n))+c1*1)*ai (dy (k+1) (m+n))+c0*(1*ak (dy (k+1) (m+n))))==aT ((0*ai iv.1+c1*1)*ai iv.1+c0*(1*ak iv.1))) (Q (V.t2 (V.t2 (V.i (dy (k+1) (m+n)).1) (V.i (dy (k+1) (m+n)).2)) (V.t2 (V.i iv.2.1) (V.i iv.2.2)))) (Q (V.t2 (V.t2 (V.i iv.1.1) (V.i iv.1.2)) (V.t2 (V.i (dy (k+1) (m+n)).1) (V.i (dy (k+1) (m+n)).2)))))) (by kernel_rfl) ?_⟩
 refine aj λb=>?_
 obtain⟨k,m,n,⟨rfl,⟨h1,h2,h3⟩,s0,s1⟩,hq⟩:=hq
 refine b ?_
 refine⟨trivial,k,m,n,⟨rfl,rfl,h1,h2⟩,⟨⟨h3.s1,h3.s2⟩,s0,s1⟩,?_⟩
 rw[BE,BE]
 exact cw (λe=>hq.t e) (λe=>⟨⟨⟨h1.s1,h1.s2⟩,s0,s1⟩,hq.f e⟩)
def Dp:aM:=λvs Q=>a2 (λv0 v1=>f7 v0 λa0 a1 a2=>nE v1 λiv=>True/\∃(k:Nat) (m n:Int),(iv=(dy k m,dy k n)/\(Dk k m/\Dk k n/\Dk (k+1) (m+n))/\Sm 300 a0/\Sm 300 a1/\Sm 300 a2)/\nf (λn d=>F3 a0 a1 a2 n d) k m n λI=>Q (K.toV .W I)) vs
theorem NX(B:aP G){D:Nat}(hs:aG G D [("middle",kx),("value_sign",t9)]):ao G (D+1) "halved" Dp:=bJ B (i:=68) (D:=D) (sp:=[("middle",kx),("value_sign",t9)]) [] (by kernel_rfl) hs λvs Q h=>by
 apply bI h;intro v0 v1 h0
 apply gY h0;intro a0 a1 a2 h1
 apply qD h1;intro iv a
 obtain⟨hp,hq⟩:=a
 refine⟨rfl,bP (α:=gd 68 [("middle",kx),("value_sign",t9)] [] [(.l .I [a0,a1,a2]),(K.toV .W iv)] (aB Q)) (β:=True/\∃k m n,((ai iv.1,ak iv.1)=dy k m/\(ai iv.2,ak iv.2)=dy k n/\Dk k m/\Dk k n)/\((Sm 2000 (dy (k+1) (m+n)).1/\Sm 2000 (dy (k+1) (m+n)).2)/\Sm 300 a0/\Sm 300 a1/\Sm 300 a2)/\aE (aT (((0*ai (dy (k+1) (m+n))+a2*1)*ai (dy (k+1) (m+n))+a1*(1*ak (dy (k+1) (m+n))))*ai (dy (k+1) (m+n))+a0*(1*ak (dy (k+1) (m+n))*ak (dy (k+1) (m+n))))==0) (Q (V.t2 (V.t2 (V.i (dy (k+1) (m+n)).1) (V.i (dy (k+1) (m+n)).2)) (V.t2 (V.i (dy (k+1) (m+n)).1) (V.i (dy (k+1) (m+n)).2)))) (((Sm 2000 iv.1.1/\Sm 2000 iv.1.2)/\Sm 300 a0/\Sm 300 a1/\Sm 300 a2)/\aE (aT (((0*ai (dy (k+1) (m+n))+a2*1)*ai (dy (k+1) (m+n))+a1*(1*ak (dy (k+1) (m+n))))*ai (dy (k+1) (m+n))+a0*(1*ak (dy (k+1) (m+n))*ak (dy (k+1) (m+n))))==aT (((0*ai iv.1+a2*1)*ai iv.1+a1*(1*ak iv.1))*ai iv.1+a0*(1*ak iv.1*ak iv.1))) (Q (V.t2 (V.t2 (V.i (dy (k+1) (m+n)).1) (V.i (dy (k+1) (m+n)).2)) (V.t2 (V.i iv.2.1) (V.i iv.2.2)))) (Q (V.t2 (V.t2 (V.i iv.1.1) (V.i iv.1.2)) (V.t2 (V.i (dy (k+1) (m+n)).1) (V.i (dy (k+1) (m+n)).2)))))) (by kernel_rfl) ?_⟩
 refine aj λb=>?_
 obtain⟨k,m,n,⟨rfl,⟨h1,h2,h3⟩,s0,s1,s2⟩,hq⟩:=hq
 refine b ?_
 refine⟨trivial,k,m,n,⟨rfl,rfl,h1,h2⟩,⟨⟨h3.s1,h3.s2⟩,s0,s1,s2⟩,?_⟩
 rw[CZ,CZ]
 exact cw (λe=>hq.t e) (λe=>⟨⟨⟨h1.s1,h1.s2⟩,s0,s1,s2⟩,hq.f e⟩)
end
section
variable {G:aK} {d:Nat} {Γ:Fm} {S:St}
noncomputable def HL(p:List Int)(n d:Int):Int:=match p with
 | [a0]=>a0
 | [c0,c1]=>F2 c0 c1 n d
 | [a0,a1,a2]=>F3 a0 a1 a2 n d
 |_=>0
def fP(p:List Int):Prop:=(p.length=1\/p.length=2\/p.length=3)/\∀x∈p,Sm 300 x
def nN:aM:=λvs Q=>a2 (λv0 v1=>bq v0 λp=>du v1 λx=>(∃k m,(x=dy k m/\Dk k m/\fP p)/\Q (.i (aT (HL p m (2^k)))))) vs
theorem OT(B:aP G){D:Nat}(hs:aG G D [("sign_of",jG)]):ao G (D+1) "value_sign" nN:=by
 have h1:=G0 B hs
 have h2:=Bw B hs
 have h3:=CQ B hs
 refine⟨h1.1,λvs Q d h hd=>?_⟩
 apply bI h;intro v w h0
 apply bL h0;intro p h0
 apply dY h0;intro x a
 obtain⟨k,m,⟨rfl,hk,hl,hp⟩,hq⟩:=a
 try clear h0
 try clear h0
 try clear h
 revert hq
 revert hp
 revert hl
 revert p
 refine l4 ?_ ?_ ?_ ?_ ?_ ?_
 ·intro hl _ _
  exact absurd hl (by decide)
 ·intro a0 _ hp hq
  refine h1.2 [.l .I [a0],rV (dy k m)] Q d ?_ hd
  have :aT (0*(dy k m).1+a0*1)=aT (HL [a0] m (2^k)):=by simp only[fV,lg,dh];rfl
  exact⟨⟨⟨hk.s1,hk.s2⟩,hp _ (by simp)⟩,by simp only[this];exact hq⟩
 ·intro c0 c1 _ hp hq
  exact h2.2 [.l .I [c0,c1],rV (dy k m)] Q d ⟨⟨⟨hk.s1,hk.s2⟩,hp _ (by simp),hp _ (by simp)⟩,by simp only[BE];exact hq⟩ hd
 ·intro a0 a1 a2 _ hp hq
  exact h3.2 [.l .I [a0,a1,a2],rV (dy k m)] Q d ⟨⟨⟨hk.s1,hk.s2⟩,hp _ (by simp),hp _ (by simp),hp _ (by simp)⟩,by simp only[CZ];exact hq⟩ hd
 ·intro _ _ _ _ hl _ _
  exact absurd hl (by simp)
 ·intro _ _ _ _ _ _ hl _ _
  exact absurd hl (by simp)
noncomputable def chg(l:List Int):Int:=((bD 1 1 ((l.length:Int)-1).toNat).filter λi=>l.getD i.toNat 0 !=l.getD (i-1).toNat 0).length
noncomputable def su(l:List Int):Int:=chg (l.filter λx=>x !=0)
noncomputable def gD(row:List (List Int))(k:Nat)(m:Int):Int:=su (row.map λp=>aT (HL p m (2^k)))
theorem NB{n:Nat}{x:Int}(h:x∈bD 1 1 n):1<=x/\x<n+1:=by
 obtain⟨k,hk,rfl⟩:=bF.mp h
 have :=rh.mp hk
 lia
def P7(a b:List Int)(Q:List Int->Prop):Prop:=match a,b with
 | [a0,a1,a2],[c,d]=>(d≠0/\cz a0 a1 a2 c d)/\aE (a7 a0 a1 a2 c d==0) (Q []) (Q [-(gw (a7 a0 a1 a2 c d))])
 | [a0,a1],[c]=>(c≠0/\cz a0 a1 c c c)/\Q []
 |_,_=>False
def oV:aM:=λvs Q=>a2 (λv0 v1=>bq v0 λa=>bq v1 λc=>P7 a c λl=>Q (.l .I l)) vs
theorem Py{D:Nat}(h3:ao G D "next_of_row" BH)(h2:ao G D "next_of_row" CI):ao G D "next_of_row" oV:=by
 refine⟨h3.1,λvs Q d h hd=>?_⟩
 apply bI h;intro v w h0
 apply bL h0;intro a h1
 apply bL h1;intro c hq
 try clear h1
 try clear h0
 try clear h
 revert c
 revert a
 exact l4 (λb h=>h.elim) (λb b h=>h.elim) (λa0 a1=>l4 (λh=>h.elim) (λe hq=>h2.2 [.l .I [a0,a1],.l .I [e]] Q d hq hd) (λb b h=>h.elim) (λb b b h=>h.elim) (λb b b b h=>h.elim) (λb b b b b b h=>h.elim))
  (λa0 a1 a2=>l4 (λh=>h.elim) (λb h=>h.elim) (λe f hq=>h3.2 [.l .I [a0,a1,a2],.l .I [e,f]] Q d hq hd) (λb b b h=>h.elim) (λb b b b h=>h.elim) (λb b b b b b h=>h.elim)) (λb b b b b h=>h.elim) (λb b b b b b b h=>h.elim)
noncomputable def K.polys(k:K):List k.D->Option (List (List Int)):=match k with
 | .P=>some
 |_=>λz_=>none
def u4(v:V)(k:List (List Int)->Prop):Prop:=match v with
 | .l c xs=>a9 (c.polys xs) k
 |_=>False
theorem R3{v:V}{k:List (List Int)->Prop}(h:u4 v k): ∃x,v= .l .P x/\k x:=by
 induction v with
 |l c xs=>
  obtain⟨y,e,q⟩:=dS (show a9 (c.polys xs) k from h)
  cases c<;>cases e
  exact⟨y,rfl,q⟩
 |_=>exact h.elim
theorem BG{v:V}{k:List (List Int)->Prop}{C:V->Prop}(h:u4 v k)(c: ∀x,k x->C (.l .P x)):C v:=by
 obtain⟨x,rfl,q⟩:=R3 h;exact c x q
def u8:aM:=λvs Q=>a2 (λv0 v1=>bq v0 λp=>du v1 λx=>True/\∃(k:Nat) (m:Int),(x=dy k m/\Dk k m/\fP p)/\Q (.i (aT (HL p m (2^k))))) vs
theorem Nu(B:aP G){D:Nat}(hs:aG G D [("value_sign",nN)]):ao G (D+1) "sign_at" u8:=bJ B (i:=50) (D:=D) (sp:=[("value_sign",nN)]) [] (by kernel_rfl) hs λvs Q h=>by
 apply bI h;intro v0 v1 h0
 apply bL h0;intro p h1
 apply dY h1;intro x a
 obtain⟨hp,hq⟩:=a
 refine⟨rfl,bP (α:=gd 50 [("value_sign",nN)] [] [(.l .I p),(rV x)] (aB Q)) (β:=Gz (V.t2 (V.i x.1) (V.i x.2))=true/\∃k m,((ai x,ak x)=dy k m/\Dk k m/\fP p)/\Q (V.i (aT (HL p m (2^k))))) (by kernel_rfl) ?_⟩
 exact⟨rfl,hq⟩
def uI:aM:=λvs Q=>a2 (λv0 v1=>u4 v0 λrow=>du v1 λx=>True/\∃(k:Nat) (m:Int),(x=dy k m/\Dk k m/\row.length<=10/\∀p∈row,fP p)/\Q (.i (gD row k m))) vs
theorem Up{i:Int}{n:Nat}(h0:1<=i)(h1:i< ((n:Int)-1).toNat+1):(0<=i/\i.toNat<n)/\0<=i-1/\(i-1).toNat<n:=by
 obtain⟨t,a⟩:=mS (XX h0)
 have e:i=((t+1:Nat):Int):=Int.sub_eq_iff_eq_add.mp a
 subst e
 have h:t+1<n:=Nat.add_lt_of_lt_sub ((zR n 1)▸XE (mX.mp h1))
 rw[a]
 exact⟨⟨jz _,h⟩,jz t,kZ h⟩
theorem UW(B:aP G){D:Nat}(hs:aG G D [("sign_at",u8)]):ao G (D+1) "changes_at" uI:=bJ B (i:=55) (D:=D) (sp:=[("sign_at",u8)]) [] (by kernel_rfl) hs λvs Q h=>by
 apply bI h;intro v0 v1 h0
 apply BG h0;intro row h1
 apply dY h1;intro x n
 obtain⟨hp,hq⟩:=n
 refine⟨rfl,bP (α:=gd 55 [("sign_at",u8)] [] [(.l .P row),(rV x)] (aB Q)) (β:=aR row<=(1000000:Nat)/\∃F:K.D K.P->K.D K.I,(∀(a:K.D K.P),a∈row->True/\∃k m,((ai x,ak x)=dy k m/\Dk k m/\fP a)/\K.of K.I (V.i (aT (HL a m (2^k))))=some (F a)/\[(al "signs",Sl.any),(al "x",Sl.val (V.t2 (V.i (ai x)) (V.i (ak x))))]=[(al "signs",Sl.any),(al "x",Sl.val (V.t2 (V.i (ai x)) (V.i (ak x))))])/\aR (bS F row)<=(1000000:Nat)/\∃B b,(∀(a:K.D K.I),a∈bS F row->(a !=0)=B a/\(B a=false->[(al "signs",Sl.val (V.l K.I (bS F row))),(al "x",Sl.val (V.t2 (V.i (ai x)) (V.i (ak x))))]=[(al "signs",Sl.val (V.l K.I (bS F row))),(al "x",Sl.val (V.t2 (V.i (ai x)) (V.i (ak x))))])/\(B a=true->K.of K.I (V.i a)=some (b a)/\[(al "signs",Sl.val (V.l K.I (bS F row))),(al "x",Sl.val (V.t2 (V.i (ai x)) (V.i (ak x))))]=[(al "signs",Sl.val (V.l K.I (bS F row))),(al "x",Sl.val (V.t2 (V.i (ai x)) (V.i (ak x))))]))/\(bE 1/\bE (↑(aR (bS b (gx B (bS F row)))):Int))/\aR (bD 1 1 (bY ((↑(aR (bS b (gx B (bS F row)))):Int)-1)))<=(1000000:Nat)/\∃d f,(∀(a:K.D K.I),a∈bD 1 1 (bY ((↑(aR (bS b (gx B (bS F row)))):Int)-1))->a9 (cg (bS b (gx B (bS F row))) a) λj=>a9 (cg (bS b (gx B (bS F row))) (a-1)) λe=>(j !=e)=d a/\(d a=false->[(al "signs",Sl.own K.I (bS b (gx B (bS F row)))),(al "x",Sl.val (V.t2 (V.i (ai x)) (V.i (ak x))))]=[(al "signs",Sl.own K.I (bS b (gx B (bS F row)))),(al "x",Sl.val (V.t2 (V.i (ai x)) (V.i (ak x))))])/\(d a=true->K.of K.I (V.i 1)=some (f a)/\[(al "signs",Sl.own K.I (bS b (gx B (bS F row)))),(al "x",Sl.val (V.t2 (V.i (ai x)) (V.i (ak x))))]=[(al "signs",Sl.own K.I (bS b (gx B (bS F row)))),(al "x",Sl.val (V.t2 (V.i (ai x)) (V.i (ak x))))]))/\Q (V.i (↑(aR (bS f (gx d (bD 1 1 (bY ((↑(aR (bS b (gx B (bS F row)))):Int)-1)))))):Int))) (by kernel_rfl) ?_⟩
 refine aj λo=>?_
 obtain⟨k,m,⟨rfl,hk,hl,hp⟩,hq⟩:=hq
 refine o ?_
 refine⟨aZ hl (by decide),λp=>aT (HL p m (2^k)),λp h=>⟨trivial,k,m,⟨rfl,hk,hp p h⟩,rfl,rfl⟩,(bi _).symm▸aZ hl (by decide),λx=>x !=0,λx=>x,λx hx=>⟨rfl,λc=>rfl,λc=>⟨rfl,rfl⟩⟩,?_⟩
 unfold gD su at hq
 have hz:(gx (λx=>x !=0) (bS (λp=>aT (HL p m (2^k))) row)).length<=10:=aZ (rA ..) (by rw[bi];exact hl)
 rw[MR]
 generalize gx (λx=>x !=0) (bS (λp=>aT (HL p m (2^k))) row)=l at *
 refine⟨⟨⟨by decide,by decide⟩,⟨by lia,by lia⟩⟩,by unfold bD;rw[bi,oA];lia,λi=>l.getD i.toNat 0 !=l.getD (i-1).toNat 0,λc=>1,λi hi=>?_,by rw[bi];exact hq⟩
 obtain⟨g,i1⟩:=NB hi
 have hr:=Up g i1
 exact sw ((sH hr.1.1).trans (getD_some hr.1.2)) (sw ((sH hr.2.1).trans (getD_some hr.2.2)) ⟨rfl,λc=>rfl,λc=>⟨rfl,rfl⟩⟩)
def yf:aM:=λvs Q=>a3 (λv0 v1 v2=>u4 v0 λrow=>du v1 λx=>du v2 λy=>True/\∃(k:Nat) (m n:Int),(x=dy k m/\y=dy k n/\Dk k m/\Dk k n/\row.length<=10/\∀p∈row,fP p)/\Q (.i (gD row k m-gD row k n))) vs
theorem Ps(B:aP G){D:Nat}(hs:aG G D [("changes_at",uI)]):ao G (D+1) "count_by_row" yf:=bJ B (i:=56) (D:=D) (sp:=[("changes_at",uI)]) [] (by kernel_rfl) hs λvs Q h=>by
 apply mY h;intro v0 v1 v2 h0
 apply BG h0;intro row h1
 apply dY h1;intro x h2
 apply dY h2;intro y d
 obtain⟨hp,hq⟩:=d
 refine⟨rfl,bP (α:=gd 56 [("changes_at",uI)] [] [(.l .P row),(rV x),(rV y)] (aB Q)) (β:=True/\∃k m,((ai x,ak x)=dy k m/\Dk k m/\aR row<=10/\∀(p:List Int),p∈row->fP p)/\True/\∃b a,((ai y,ak y)=dy b a/\Dk b a/\aR row<=10/\∀(p:List Int),p∈row->fP p)/\Q (V.i (gD row k m-gD row b a))) (by kernel_rfl) ?_⟩
 refine aj λe=>?_
 obtain⟨k,m,n,⟨rfl,rfl,hk,c,hl,hp⟩,hq⟩:=hq
 refine e ?_
 exact⟨trivial,k,m,⟨rfl,hk,hl,hp⟩,trivial,k,n,⟨rfl,c,hl,hp⟩,hq⟩
def uQ:aM:=λvs Q=>a1 (λv0=>c5 v0 λc0 c1=>(c1≠0/\Sm 300 c0/\Sm 300 c1)/\Q (.l .P [[c0,c1],[c1]])) vs
theorem Ot(B:aP G){D:Nat}(hs:aG G D [("zderive",jp),("next_of_row",oV)]):ao G (D+1) "sturm_row" uQ:=bJ B (i:=54) (D:=D) (sp:=[("zderive",jp),("next_of_row",oV)]) ["found"] (by kernel_rfl) hs λvs Q h=>by
 apply cu h;intro v0 h0
 apply dn h0;intro c0 c1 a
 obtain⟨hp,hq⟩:=a
 refine⟨rfl,bP (α:=gd 54 [("zderive",jp),("next_of_row",oV)] ["found"] [(.l .I [c0,c1])] (aB Q)) (β:=(2<=1000/\∀(x:Int×Int),x∈[(0,c0),(1,c1)]->aq x.2 x.1=true)/\1<10000000/\(c1*1≠0/\cz c0 c1 (c1*1) (c1*1) (c1*1))/\Q (V.l K.P [[c0,c1],[c1*1]])) (by kernel_rfl) ?_⟩
 refine aj λb=>?_
 obtain⟨h1,s0,s1⟩:=hp
 refine b ?_
 rw[dh]
 refine⟨⟨by decide,λx hx=>?_⟩,by decide,⟨h1,⟨s0,s1,s1⟩,s1,s1⟩,hq⟩
 simp only[bz,gT,or_false]at hx
 rcases hx with rfl|rfl
 ·exact Sm.ok s0 (Sm.lit (x:=0) (by decide)) (by decide) (by decide)
 ·exact Sm.ok s1 (Sm.lit (x:=1) (by decide)) (by decide) (by decide)
def DJ:aM:=λvs Q=>a1 (λv0=>f7 v0 λa0 a1 a2=>(a2≠0/\Sm 200 a0/\Sm 200 a1/\Sm 200 a2/\a7 a0 a1 a2 a1 (a2*2)≠0)/\Q (.l .P [[a0,a1,a2],[a1,a2*2],[-(gw (a7 a0 a1 a2 a1 (a2*2)))]])) vs
theorem Wd(B:aP G){D:Nat}(hs:aG G D [("zderive",jp),("next_of_row",oV)]):ao G (D+1) "sturm_row" DJ:=bJ B (i:=54) (D:=D) (sp:=[("zderive",jp),("next_of_row",oV)]) ["found"] (by kernel_rfl) hs λvs Q h=>by
 apply cu h;intro v0 h0
 apply gY h0;intro a0 a1 a2 b
 obtain⟨hp,hq⟩:=b
 refine⟨rfl,bP (α:=gd 54 [("zderive",jp),("next_of_row",oV)] ["found"] [(.l .I [a0,a1,a2])] (aB Q)) (β:=(3<=1000/\∀(x:Int×Int),x∈[(0,a0),(1,a1),(2,a2)]->aq x.2 x.1=true)/\1<10000000/\(a2*2≠0/\cz a0 a1 a2 (a1*1) (a2*2))/\aE (a7 a0 a1 a2 (a1*1) (a2*2)==0) (Q (V.l K.P [[a0,a1,a2],[a1*1,a2*2]])) (2<10000000/\(-gw (a7 a0 a1 a2 (a1*1) (a2*2))≠0/\cz (a1*1) (a2*2) (-gw (a7 a0 a1 a2 (a1*1) (a2*2))) (-gw (a7 a0 a1 a2 (a1*1) (a2*2))) (-gw (a7 a0 a1 a2 (a1*1) (a2*2))))/\Q (V.l K.P [[a0,a1,a2],[a1*1,a2*2],[-gw (a7 a0 a1 a2 (a1*1) (a2*2))]]))) (by kernel_rfl) ?_⟩
 refine aj λc=>?_
 obtain⟨h2,s0,s1,s2,hr⟩:=hp
 refine c ?_
 rw[dh]
 have t0:=s0.mono (k:=300) (by decide)
 have t1:=s1.mono (k:=300) (by decide)
 have t2:=s2.mono (k:=300) (by decide)
 have t3:Sm 300 (a2*2):=(s2.mul (Sm.lit (x:=2) (by decide))).mono (by decide)
 have a:Sm 300 (-gw (a7 a0 a1 a2 a1 (a2*2))):=by
  refine(Sm.lit (x:=1) (by decide)).mono (k:=300) (by decide) |>.of_le ?_
  rw[jg]
  rcases gU (a7 a0 a1 a2 a1 (a2*2)) 0 with q|q|q
  ·rw[FG q];decide
  ·rw[q];decide
  ·rw[FH q];decide
 have h4: -gw (a7 a0 a1 a2 a1 (a2*2))≠0:=by
  rw[Int.neg_ne_zero,Ne,Int.sign_eq_zero_iff_zero];exact hr
 refine⟨⟨by decide,λx hx=>?_⟩,by decide,⟨bH h2 (by decide),⟨t0,t1,t2⟩,t1,t3⟩,cw (λe=>absurd (by simpa using e) hr) λz_=>⟨by decide,⟨h4,⟨t1,t3,a⟩,a,a⟩,hq⟩⟩
 simp only[bz,gT,or_false]at hx
 rcases hx with rfl|rfl|rfl
 ·exact Sm.ok s0 (Sm.lit (x:=0) (by decide)) (by decide) (by decide)
 ·exact Sm.ok s1 (Sm.lit (x:=1) (by decide)) (by decide) (by decide)
 ·exact Sm.ok s2 (Sm.lit (x:=2) (by decide)) (by decide) (by decide)
end
section
variable {G:aK} {d:Nat} {Γ:Fm} {S:St}
def Yl(p:List Int)(M:Int):Prop:=∀x∈p,(x.natAbs:Int)<=M
theorem T1{M L B:Int}(b:0<L)(a:0<=M)(hB:B=2+M.fdiv L):2<=B/\M+1<=L*(B-1):=by
 have h1:=XR M L
 have h2:=Fz M b
 have h3:0<=M.fdiv L:=by rw[MS _ (by omega)];exact EX a (by omega)
 have h4:L*(B-1)=L*M.fdiv L+L:=by simp only[hB,show 2+M.fdiv L-1=M.fdiv L+1 by lia,FD,dh]
 omega
theorem NY{c0 c1 B M n d:Int}(h1:c1≠0)(hm:(c0.natAbs:Int)<=M)(hB:M+1<=(c1.natAbs:Int)*(B-1))(hd:0<d)(h:F2 c0 c1 n d=0):(n.natAbs:Int)<B*d:=by
 unfold F2 at h
 have e:(c1.natAbs:Int)*n.natAbs=c0.natAbs*d:=by
  have :(c1*n).natAbs=(c0*d).natAbs:=by simp only[show c1*n= -(c0*d) by trivial,jg]
  simp only[fH,fH]at this
  have e2:(d.natAbs:Int)=d:=by trivial
  rw[← e2]
  exact_mod_cast this
 have hL:0< (c1.natAbs:Int):=by trivial
 generalize(c1.natAbs:Int)=L at *
 generalize(c0.natAbs:Int)=C at *
 generalize(n.natAbs:Int)=N at *
 have k1:C*d<=M*d:=fI hm (by trivial)
 have k2:(M+1)*d<=L*(B-1)*d:=fI hB (by trivial)
 have a:L*N<L*((B-1)*d):=by
  have :L*(B-1)*d=L*((B-1)*d):=eK ..
  have :(M+1)*d=M*d+d:=by simp only[Ma,kS]
  trivial
 have k4:=MT a (by trivial)
 have :(B-1)*d=B*d-d:=by simp only[Int.sub_mul,kS]
 trivial
theorem R5{x y z:Int}(h:x+y+z=0):x.natAbs<=y.natAbs+z.natAbs:=by
 simp only[show x= -(y+z) by(first |lia|omega),jg];exact FC y z
theorem PS{a0 a1 a2 B M n d:Int}(h2:a2≠0)(m0:(a0.natAbs:Int)<=M)(c:(a1.natAbs:Int)<=M)(yN:2<=B)(hB:M+1<=(a2.natAbs:Int)*(B-1))(hd:0<d)(h:F3 a0 a1 a2 n d=0):(n.natAbs:Int)<B*d:=by
 have e:(a2.natAbs:Int)*n.natAbs*n.natAbs<=a1.natAbs*n.natAbs*d+a0.natAbs*d*d:=by
  have h1:=R5 h
  simp only[fH,fH,fH,fH,fH,fH]at h1
  have e2:(d.natAbs:Int)=d:=by trivial
  rw[← e2]
  exact_mod_cast h1
 have g:0< (a2.natAbs:Int):=by trivial
 have hN:0<=(n.natAbs:Int):=by trivial
 have hM:0<=M:=by trivial
 generalize(a2.natAbs:Int)=L at *
 generalize(a0.natAbs:Int)=j at *
 generalize(a1.natAbs:Int)=i at *
 generalize(n.natAbs:Int)=N at *
 refine Int.lt_of_not_ge λa=>?_
 have b:0<N:=gy (da (by trivial) hd) a
 have k1:i*N*d<=M*N*d:=fI (fI c (by trivial)) (by trivial)
 have k2:j*d*d<=M*d*d:=fI (fI m0 (by trivial)) (by trivial)
 have k3:L*N*(B*d)<=L*N*N:=gA a (fW (by trivial) (by trivial))
 have k4:(M+1)*(N*d)<=L*(B-1)*(N*d):=fI hB (fW (by trivial) (by trivial))
 have f:L*(B*d)<=L*N:=gA a (by trivial)
 have k6:L*(B*d)*d<=L*N*d:=fI f (by trivial)
 have k7:(M+1)*(d*d)<=L*(B-1)*(d*d):=fI hB (fW (by trivial) (by trivial))
 have p1:0<N*d:=da b hd
 have p2:0<L*(d*d):=da g (da hd hd)
 have p3:0<d*d:=da hd hd
 trivial
def sE:aM:=λvs Q=>a1 (λv=>bq v λp=>((p.length=2\/p.length=3)/\p.getLastD 0≠0/\∀x∈p,Sm 100 x)/\∀B:Int,2<=B->Sm 104 B->(∀n d,0<d->HL p n d=0->(n.natAbs:Int)<B*d)->Q (.i B)) vs
theorem O4{D:Nat}(h:ao G D "root_bound" z7):ao G D "root_bound" sE:=h.weak λvs Q h=>by
 apply cu h;intro v h0
 apply bL h0;intro p k
 obtain⟨⟨hl,h1,hs⟩,hq⟩:=k
 have c:p≠ []:=λe=>by subst e;simp at hl
 refine⟨⟨⟨by lia,c⟩,h1,(x8 hs c).mono (by decide)⟩,?_⟩
 have b:=wC (ns:=p.map λx=>(x.natAbs:Int)) (by simpa using c)
 generalize j:maxL (p.map λx=>(x.natAbs:Int))=M at b
 obtain⟨x,hx,ex⟩:=bF.mp b.1
 have g:0<=M:=by lia
 have f:Sm 100 M:=(hs x hx).of_le (by lia)
 have hle: ∀y∈p,(y.natAbs:Int)<=M:=λy i=>b.2 _ (bF.mpr ⟨y,i,rfl⟩)
 obtain⟨b2,a⟩:=T1 (L:=((p.getLastD 0).natAbs:Int)) (by lia) g rfl
 refine hq _ b2 (((Sm.iff.mpr (by decide):Sm 2 2).add (f.fdiv (y:=((p.getLastD 0).natAbs:Int)))).mono (by decide)) λn d hd h0=>?_
 try clear hx
 try clear ex
 try clear h
 try clear hq
 try clear c
 try clear hs
 try clear j
 try clear b
 try clear g
 try clear f
 revert h0
 revert b2
 revert a
 revert h1
 revert hle
 revert hl
 revert p
 refine l4 ?_ ?_ ?_ ?_ ?_ ?_
 ·intro hl _ _ _ _ _
  exact absurd hl (by simp)
 ·intro _ hl _ _ _ _ _
  exact absurd hl (by simp)
 ·intro c0 c1 _ hle h1 a b2 h0
  exact NY h1 (hle _ (by simp)) a hd h0
 ·intro a0 a1 a2 _ hle h1 a b2 h0
  exact PS h1 (hle _ (by simp)) (hle _ (by simp)) b2 a hd h0
 ·intro _ _ _ _ hl _ _ _ _ _
  exact absurd hl (by simp)
 ·intro _ _ _ _ _ _ hl _ _ _ _ _
  exact absurd hl (by simp)
end
section
variable {G:aK} {d:Nat} {Γ:Fm} {S:St}
def uv:aM:=λvs Q=>a3 (λv0 v1 v2=>u4 v0 λrow=>du v1 λx=>du v2 λy=>(∃(k:Nat) (m n:Int),x=dy k m/\y=dy k n/\Dk k m/\Dk k n/\(row.length<=10/\∀p∈row,fP p)/\gD row k m-gD row k n=1)/\Q (.i 1)) vs
theorem QD{D:Nat}(h:ao G D "count_by_row" yf):ao G D "count_by_row" uv:=h.weak λvs Q h=>by
 apply mY h;intro v0 v1 v2 h0
 apply BG h0;intro row h1
 apply dY h1;intro x h2
 apply dY h2;intro y a
 refine aj λb=>?_
 obtain⟨⟨k,m,n,e1,e2,h3,h4,h5,h6⟩,hq⟩:=a
 refine b ?_
 exact⟨trivial,k,m,n,⟨e1,e2,h3,h4,h5⟩,(h6).symm▸hq⟩
theorem gF{n:Int}(h:0<n):aT n=1:=by
 have h1:decide (n>0)=true:=decide_eq_true h
 have h2:decide (n<0)=false:=decide_eq_false (by lia)
 unfold aT;rw[h1,h2];rfl
theorem fY{n:Int}(h:n<0):aT n= -1:=by
 have h1:decide (n>0)=false:=decide_eq_false (by lia)
 have h2:decide (n<0)=true:=decide_eq_true h
 unfold aT;rw[h1,h2];rfl
theorem Yo:aT 0=0:=rfl
theorem RC{c0 c1 B:Int}(h1:c1≠0)(hb: ∀n d:Int,0<d->F2 c0 c1 n d=0->(n.natAbs:Int)<B*d):(c0.natAbs:Int)<B*(c1.natAbs:Int):=by
 have h:=hb (-c0*gw c1) (c1.natAbs:Int) (by lia) (by unfold F2;rw[← Int.mul_sign_self];grind)
 have :(-c0*gw c1).natAbs=c0.natAbs:=by simp only[fH,jg,Int.natAbs_sign_of_ne_zero h1,FM]
 rw[this]at h;exact h
theorem yv{p c:Int}(h:(p.natAbs:Int)<c): -c<p/\p<c:=
 ⟨X8 (oB (jg p▸tY (a:= -p)) h),oB tY h⟩
theorem Rg{c0 c1 B:Int}(h1:c1≠0)(hB:2<=B)(h:(c0.natAbs:Int)<B*(c1.natAbs:Int)):gD [[c0,c1],[c1]] 0 (-B)-gD [[c0,c1],[c1]] 0 B=1:=by
 have e1:F2 c0 c1 (-B) (2^0)=c0-c1*B:=by unfold F2;grind
 have e2:F2 c0 c1 B (2^0)=c0+c1*B:=by unfold F2;grind
 show su [aT (F2 c0 c1 (-B) (2^0)),aT c1] -su [aT (F2 c0 c1 B (2^0)),aT c1]=1
 simp only[e1,e2]
 rcases oE h1 with q|q
 ·have h2:=yv ((bT B c1▸k8 B c1▸X9 (bZ q)▸h):(c0.natAbs:Int)< -(c1*B))
  rw[fY q,gF (wv (tZ (c1*B)▸h2.1)),fY (Int.add_left_neg (c1*B)▸MU h2.2 (c1*B))];decide
 ·have h2:=yv ((bT B c1▸p6 (bZ q)▸h):(c0.natAbs:Int)<c1*B)
  rw[gF q,fY (MV h2.2),gF (Int.add_left_neg (c1*B)▸MU h2.1 (c1*B))];decide
theorem AW{c0 c1:Int}(h0:Sm 300 c0)(h1:Sm 300 c1):fP [c0,c1]:=⟨.inr (.inl rfl),by simp[h0,h1]⟩
theorem Cu{c0:Int}(h0:Sm 300 c0):fP [c0]:=⟨.inl rfl,by simp[h0]⟩
theorem HW{a0 a1 a2:Int}(h0:Sm 300 a0)(h1:Sm 300 a1)(h2:Sm 300 a2):fP [a0,a1,a2]:=⟨.inr (.inr rfl),by simp[h0,h1,h2]⟩
def xj:aM:=λvs Q=>a1 (λv0=>c5 v0 λc0 c1=>(c1≠0/\Sm 100 c0/\Sm 100 c1)/\∀B:Int,2<=B->Sm 104 B->(∀n d:Int,0<d->F2 c0 c1 n d=0->(n.natAbs:Int)<B*d)->Q (.t2 (.l .W [((-B,1),(B,1))]) .no)) vs
theorem Vm(B:aP G){D:Nat}(hs:aG G D [("sturm_row",uQ),("root_bound",sE),("count_by_row",uv),("middle",kx),("value_sign",nN)]):ao G (D+1) "split_roots" xj:=bJ B (i:=64) (D:=D) (sp:=[("sturm_row",uQ),("root_bound",sE),("count_by_row",uv),("middle",kx),("value_sign",nN)]) ["waiting","found"] (by kernel_rfl) hs λvs Q h=>by
 apply cu h;intro v0 h0
 apply dn h0;intro c0 c1 a
 obtain⟨hp,hq⟩:=a
 refine⟨rfl,bP (α:=gd 64 [("sturm_row",uQ),("root_bound",sE),("count_by_row",uv),("middle",kx),("value_sign",nN)] ["waiting","found"] [(.l .I [c0,c1])] (aB Q)) (β:=(c1≠0/\Sm 300 c0/\Sm 300 c1)/\((2=2\/2=3)/\eC [c0,c1] 0≠0/\∀(x:Int),x∈[c0,c1]->Sm 100 x)/\∀(B:Int),2<=B->Sm 104 B->(∀(n d:Int),0<d->HL [c0,c1] n d=0->(↑(cq n):Int)<B*d)->(∃k m n,(-B,1)=dy k m/\(B,1)=dy k n/\Dk k m/\Dk k n/\(2<=10/\∀(p:List Int),p∈[[c0,c1],[c1]]->fP p)/\gD [[c0,c1],[c1]] k m-gD [[c0,c1],[c1]] k n=1)/\0<10000000/\Q (V.t2 (V.l K.W [((-B,1),B,1)]) V.no)) (by kernel_rfl) ?_⟩
 refine aj λb=>?_
 obtain⟨h1,s0,s1⟩:=hp
 refine b ?_
 have t0:=s0.mono (k:=300) (by decide)
 have t1:=s1.mono (k:=300) (by decide)
 refine⟨⟨h1,t0,t1⟩,⟨.inl rfl,h1,by simp[s0,s1]⟩,λB b2 bs hb=>⟨⟨0, -B,B,(s8 _).symm,(s8 _).symm,⟨by decide,(bs.neg).mono (by decide)⟩,⟨by decide,bs.mono (by decide)⟩,⟨by decide,λp hp=>?_⟩,Rg h1 b2 (RC h1 hb)⟩,by decide,hq B b2 bs hb⟩⟩
 simp only[bz,gT,or_false]at hp
 rcases hp with rfl|rfl
 ·exact AW t0 t1
 ·exact Cu t1
end
section
variable {G:aK} {d:Nat} {Γ:Fm} {S:St}
structure Sq(a0 a1 a2 p1 q1 p2 q2:Int):Prop where
 h1:0<q1
 h2:0<q2
 ne:a2≠0
 e1:a1*(q1*q2)= -(a2*(p1*q2+p2*q1))
 e0:a0*(q1*q2)=a2*(p1*p2)
 di:p1*q2≠p2*q1
variable {a0 a1 a2 p1 q1 p2 q2:Int}
theorem Sq.qq(h:Sq a0 a1 a2 p1 q1 p2 q2):0<q1*q2:=da h.h1 h.h2
theorem Sq.val(h:Sq a0 a1 a2 p1 q1 p2 q2)(n d:Int):(q1*q2)*F3 a0 a1 a2 n d=a2*((q1*n-p1*d)*(q2*n-p2*d)):=by
 have h1:=h.e1;have h0:=h.e0
 unfold F3
 have :(q1*q2)*(a2*n*n+a1*n*d+a0*d*d)=a2*(q1*q2)*n*n+(a1*(q1*q2))*n*d+(a0*(q1*q2))*d*d:=by grind
 simp only[this,h1,h0];grind
theorem Sq.der(h:Sq a0 a1 a2 p1 q1 p2 q2)(n d:Int):(q1*q2)*F2 a1 (a2*2) n d=a2*(q2*(q1*n-p1*d)+q1*(q2*n-p2*d)):=by
 have h1:=h.e1
 unfold F2
 have :(q1*q2)*(a2*2*n+a1*d)=a2*2*(q1*q2)*n+(a1*(q1*q2))*d:=by grind
 simp only[this,h1];grind
theorem Sq.rest(h:Sq a0 a1 a2 p1 q1 p2 q2):((q1*q2)*(q1*q2))*a7 a0 a1 a2 a1 (a2*2)=a2* -((a2*a2)*((p1*q2-p2*q1)*(p1*q2-p2*q1))):=by
 have h1:=h.e1;have h0:=h.e0
 unfold a7
 have :((q1*q2)*(q1*q2))*(a0*(a2*2)*(a2*2)-a1*(a1*(a2*2)-a1*a2))=a2*(4*(a0*(q1*q2))*a2*(q1*q2)-(a1*(q1*q2))*(a1*(q1*q2))):=by grind
 simp only[this,h1,h0];grind
theorem Cp{x:Int}(h:x≠0):0<x*x:=by
 rcases oE h with q|q
 ·exact X7 q q
 ·exact da q q
theorem sS(n:Int):aT n=gw n:=by
 rcases gU n 0 with q|q|q
 ·rw[fY q,FG q]
 ·rw[q];rfl
 ·rw[gF q,FH q]
theorem RF(n:Int):aT (-n)= -aT n:=by simp only[sS,sS,Int.sign_neg]
theorem Sq.sgn(h:Sq a0 a1 a2 p1 q1 p2 q2):a7 a0 a1 a2 a1 (a2*2)≠0/\ -(gw (a7 a0 a1 a2 a1 (a2*2)))=aT a2:=by
 have hr:=h.rest
 have hd:0< (a2*a2)*((p1*q2-p2*q1)*(p1*q2-p2*q1)):=da (Cp h.ne) (Cp (by have :=h.di;lia))
 have hq:=Cp (x:=q1*q2) (by have :=h.qq;lia)
 have e:aT (a7 a0 a1 a2 a1 (a2*2))= -aT a2:=by
  rw[← lr hq,hr,k8,RF,bT,lr hd]
 refine⟨λz=>?_,by rw[← sS,e,tZ]⟩
 rw[z]at e
 rcases oE h.ne with q|q
 ·rw[fY q]at e;cases e
 ·rw[gF q]at e;cases e
noncomputable def CD(a0 a1 a2:Int):List (List Int):=[[a0,a1,a2],[a1,a2*2],[-(gw (a7 a0 a1 a2 a1 (a2*2)))]]
theorem DC(n:Int):aT n=1\/aT n= -1\/aT n=0:=by
 rcases gU n 0 with q|q|q
 ·exact .inr (.inl (fY q))
 ·exact .inr (.inr (by rw[q];rfl))
 ·exact .inl (gF q)
theorem ky(a b:Int):aT (a*b)=aT a*aT b:=by simp only[sS,sS,sS,Int.sign_mul]
theorem PL: ∀s∈([1, -1]:List Int),∀a∈([1, -1,0]:List Int),∀b∈([1, -1,0]:List Int),∀t∈([1, -1,0]:List Int),¬ (a=0/\b=0)->(a=0->t=b)->(b=0->t=a)->(a=b->t=a)->su [s*(a*b),s*t,s]=b2 (decide (a<0))+b2 (decide (b<0)):=by decide+kernel
theorem AY(x:Int):aT x∈([1, -1,0]:List Int):=by rcases DC x with q|q|q<;>rw[q]<;>decide
theorem JA(u:Int):decide (aT u<0)=decide (u<0):=by
 rcases gU u 0 with h|h|h
 ·rw[fY h,decide_eq_true h];rfl
 ·rw[h];rfl
 ·rw[gF h,decide_eq_false (fX.mpr (bZ h))];rfl
theorem uK{u:Int}(h:aT u=0):u=0:=by
 rcases gU u 0 with z|z|z
 ·rw[fY z]at h;cases h
 ·exact z
 ·rw[gF z]at h;cases h
theorem OA{x y:Int}(e:aT x=aT y):aT (x+y)=aT x:=by
 rcases gU x 0 with h|h|h
 ·rw[fY h]at e ⊢
  rcases gU y 0 with z|z|z
  ·exact fY (Int.add_neg h z)
  ·rw[z]at e;cases e
  ·rw[gF z]at e;cases e
 ·rw[h]at e ⊢
  rw[lg, ← e]
 ·rw[gF h]at e ⊢
  rcases gU y 0 with z|z|z
  ·rw[fY z]at e;cases e
  ·rw[z]at e;cases e
  ·exact gF (Int.add_pos h z)
theorem Sq.chg(h:Sq a0 a1 a2 p1 q1 p2 q2)(k:Nat)(m:Int):gD (CD a0 a1 a2) k m=b2 (decide (q1*m-p1*2^k<0))+b2 (decide (q2*m-p2*2^k<0)):=by
 have hd:=nB k
 have e1:aT (F3 a0 a1 a2 m (2^k))=aT a2*(aT (q1*m-p1*2^k)*aT (q2*m-p2*2^k)):=by rw[← lr h.qq,h.val,ky,ky]
 have e2:aT (F2 a1 (a2*2) m (2^k))=aT a2*aT (q2*(q1*m-p1*2^k)+q1*(q2*m-p2*2^k)):=by rw[← lr h.qq,h.der,ky]
 have b:aT (-(gw (a7 a0 a1 a2 a1 (a2*2))))=aT a2:=by rw[h.sgn.2];rcases DC a2 with q|q|q<;>rw[q]<;>rfl
 have hs:aT a2∈([1, -1]:List Int):=by
  rcases DC a2 with q|q|q
  ·rw[q];decide
  ·rw[q];decide
  ·exact absurd (uK q) h.ne
 have a:¬ (aT (q1*m-p1*2^k)=0/\aT (q2*m-p2*2^k)=0):=λz=>by
  have :(p1*q2-p2*q1)*2^k=q1*(q2*m-p2*2^k)-q2*(q1*m-p1*2^k):=by grind
  simp only[uK z.1,uK z.2,cP,cP,zT]at this
  rcases fq.mp this with q|q
  ·exact h.di (MW.mp q)
  ·exact absurd q (fJ hd)
 show su [aT (F3 a0 a1 a2 m (2^k)),aT (F2 a1 (a2*2) m (2^k)),aT (-(gw (a7 a0 a1 a2 a1 (a2*2))))]=_
 simp only[e1,e2,b, ← JA (q1*m-p1*2^k), ← JA (q2*m-p2*2^k)]
 generalize q1*m-p1*2^k=u at a ⊢
 generalize q2*m-p2*2^k=v at a ⊢
 exact PL _ hs _ (AY u) _ (AY v) _ (AY _) a (λe=>by simp only[uK e,cP,lg,lr h.h1]) (λe=>by simp only[uK e,cP,iM,lr h.h2]) (λe=>by rw[OA (by simp only[lr h.h1,lr h.h2];exact e),lr h.h2])
end
section
variable {G:aK} {d:Nat} {Γ:Fm} {S:St}
noncomputable abbrev Iv:=(Int×Int)×(Int×Int)
noncomputable def iv(B:Int)(I:Nat×Int):Iv:=(dy I.1 I.2,dy I.1 (I.2+2*B))
def a8(p q B:Int)(I:Nat×Int):Prop:=q*I.2-p*2^I.1<0/\0<q*(I.2+2*B)-p*2^I.1
instance (p q B:Int) (I:Nat×Int):Decidable (a8 p q B I):=inferInstanceAs (Decidable (_/\_))
structure nA(p q B:Int)(I:Nat×Int):Prop where
 lo:q*I.2-p*2^I.1≠0
 hi:q*(I.2+2*B)-p*2^I.1≠0
structure dk(p1 q1 p2 q2 B:Int)(I:Nat×Int):Prop where
 k:I.1<=150
 lo: -(B*2^I.1)<=I.2
 hi:I.2+2*B<=B*2^I.1
 u:nA p1 q1 B I
 v:nA p2 q2 B I
noncomputable def wt(p1 q1 p2 q2 B:Int)(I:Nat×Int):Nat:=if a8 p1 q1 B I/\a8 p2 q2 B I then 2*(150-I.1)+1 else 1
variable {p1 q1 p2 q2 B:Int}
theorem TD{m x:Int}(h1: -x<=m)(h2:m<=x):m.natAbs<=x.natAbs:=by
 rcases Mv 0 m with h|h
 ·exact nk h h2
 ·rw[← jg m];exact nk (Int.neg_nonneg_of_nonpos h) (Int.neg_le_of_neg_le h1)
theorem DF{k:Nat}{m:Int}(hB:Sm 104 B)(be:0<=B)(hk:k<=151)(h1: -(B*2^k)<=m)(h2:m<=B*2^k):Dk k m:=by
 refine⟨by trivial,((hB.mul (Hc k)).of_le ?_).mono (by trivial)⟩
 exact TD h1 h2
theorem dk.d0{I:Nat×Int}(h:dk p1 q1 p2 q2 B I)(hB:Sm 104 B)(be:0<=B):Dk I.1 I.2:=DF hB be (by have :=h.k;trivial) h.lo (by have :=h.hi;trivial)
theorem dk.d1{I:Nat×Int}(h:dk p1 q1 p2 q2 B I)(hB:Sm 104 B)(be:0<=B):Dk I.1 (I.2+2*B):=DF hB be (by have :=h.k;lia) (by have :=h.lo;lia) h.hi
theorem dk.dm{I:Nat×Int}(h:dk p1 q1 p2 q2 B I)(hB:Sm 104 B)(be:0<=B):Dk (I.1+1) (I.2+(I.2+2*B)):=by
 have e:B*2^(I.1+1)=B*2^I.1+B*2^I.1:=by rw[ki];grind
 have :=h.lo;have :=h.hi
 exact DF hB be (by have :=h.k;lia) (by lia) (by lia)
theorem F7{p q:Int}{I:Nat×Int}(hq:0<q)(hB:0<B)(h:nA p q B I):b2 (decide (q*I.2-p*2^I.1<0))-b2 (decide (q*(I.2+2*B)-p*2^I.1<0))=if a8 p q B I then 1 else 0:=by
 have hl:q*I.2-p*2^I.1<q*(I.2+2*B)-p*2^I.1:=MX (MY (rG _ (da (by decide) hB)) hq) _
 by_cases hx:q*I.2-p*2^I.1<0
 ·by_cases a:q*(I.2+2*B)-p*2^I.1<0
  ·rw[decide_eq_true hx,decide_eq_true a,if_neg (λz:a8 p q B I=>rH a z.2)];rfl
  ·rw[decide_eq_true hx,decide_eq_false a,if_pos (show a8 p q B I from⟨hx,rq.mpr ⟨fX.mp a,ot h.hi⟩⟩)];rfl
 ·rw[decide_eq_false hx,decide_eq_false (λz=>hx (jf hl z)),if_neg (λz:a8 p q B I=>hx z.1)];rfl
theorem Th{x c:Int}(h1: -c<x)(h2:x<c):(x.natAbs:Int)<c:=
 (Mv 0 x).elim (λh=>(p6 h).symm▸h2) (λh=>(X9 h).symm▸X8 h1)
theorem VB{x y w:Int}(h1:x<=0)(h2:y<0)(h3:0<=x+w)(h4:0<y+w):((x-y).natAbs:Int)<w:=Th (by lia) (by lia)
theorem Ga{k n:Nat}(h:(2:Int)^k<2^n):k<n:=Nat.lt_of_not_le λz=>by
 have :=dH.mpr (MH (n:=2) (by decide) z)
 rw[zW,zW]at this
 exact l8.mpr h this
theorem Bc{I:Nat×Int}(h1:0<q1)(h2:0<q2)(hq:q1*q2<2^40)(hB:Sm 104 B)(hd:p1*q2≠p2*q1)(i1:a8 p1 q1 B I)(i2:q2*I.2-p2*2^I.1<=0/\0<=q2*(I.2+2*B)-p2*2^I.1):I.1<150:=by
 have e:(p1*q2-p2*q1)*2^I.1=q1*(q2*I.2-p2*2^I.1)-q2*(q1*I.2-p1*2^I.1):=by grind
 have d:q1*(q2*(I.2+2*B)-p2*2^I.1)=q1*(q2*I.2-p2*2^I.1)+q1*q2*(2*B):=by grind
 have c:q2*(q1*(I.2+2*B)-p1*2^I.1)=q2*(q1*I.2-p1*2^I.1)+q1*q2*(2*B):=by grind
 have a:=VB (Int.mul_nonpos_of_nonneg_of_nonpos (bZ h1) i2.1) (tV h2 i1.1) (d▸fW (bZ h1) i2.2) (c▸da h2 i1.2)
 rw[← e,fH,jx,p6 (bZ (nB I.1))]at a
 replace a:=oB (u7 (FO.mpr (zX.mpr (λz=>hd (MW.mp z)))) (bZ (nB I.1))) a
 have be:0<2*B:=t5 (jf (nB I.1) a) (da h1 h2)
 have b:B<=2^104:=bb tY (bb (dH.mpr (eP (Sm.iff.mp hB))) (by decide))
 exact Ga (gy a (bb (fI (bZ hq) (bZ be)) (bb (gA (gA b (by decide)) (by decide)) (by decide))))
theorem RK{I:Nat×Int}(h1:0<q1)(h2:0<q2)(hq:q1*q2<2^40)(hB:Sm 104 B)(hd:p1*q2≠p2*q1)(i1:a8 p1 q1 B I)(i2:a8 p2 q2 B I):I.1<150:=Bc h1 h2 hq hB hd i1 ⟨bZ i2.1,bZ i2.2⟩
theorem NT{a b c:Int}(e:a<b)(d:b<c)(hb:b≠0):(a<0/\0<c)↔((a<0/\0<b)/\¬ (b<0/\0<c))\/(¬ (a<0/\0<b)/\b<0/\0<c):=by
 rcases oE hb with h|h
 ·exact⟨λz=>.inr ⟨λw=>rH w.2 h,h,z.2⟩,λz=>z.elim (λz=>absurd z.1.2 (rH h)) λz=>⟨jf e h,z.2.2⟩⟩
 ·exact⟨λz=>.inl ⟨⟨z.1,h⟩,λw=>rH w.1 h⟩,λz=>z.elim (λz=>⟨z.1.1,jf h d⟩) λz=>absurd z.2.1 (rH h)⟩
theorem xn(x B:Int):2*x+2*B=x+(x+2*B):=by rw[rI x,wb]
theorem sY(x B:Int):2*x+2*B+2*B=2*(x+2*B):=by grind
theorem oX{p q:Int}(I:Nat×Int)(x:Int):q*(2*x)-p*2^(I.1+1)=2*(q*x-p*2^I.1):=by rw[ki,Int.mul_sub,tX q,tX 2 p,bT 2 (2^I.1)]
theorem An{p q:Int}{I:Nat×Int}(hq:0<q)(hB:0<B):2*(q*I.2-p*2^I.1)<q*(2*I.2+2*B)-p*2^(I.1+1)/\q*(2*I.2+2*B)-p*2^(I.1+1)<2*(q*(I.2+2*B)-p*2^I.1):=by
 have a:0<2*B:=da (by decide) hB
 rw[← oX, ← oX, ← sY]
 exact⟨MX (MY (rG _ a) hq) _,MX (MY (rG _ a) hq) _⟩
theorem A4{x:Int}:x<0↔2*x<0:=⟨λh=>tV (by decide) h,λh=>l8.mp λz=>l8.mpr h (fW (by decide) z)⟩
theorem rL{x:Int}:0<x↔0<2*x:=⟨λh=>da (by decide) h,λh=>t5 h (by decide)⟩
theorem m5{p q:Int}{I:Nat×Int}(hq:0<q)(hB:0<B)(hw:q*(2*I.2+2*B)-p*2^(I.1+1)≠0):a8 p q B I↔(a8 p q B (I.1+1,2*I.2)/\¬ a8 p q B (I.1+1,2*I.2+2*B))\/(¬ a8 p q B (I.1+1,2*I.2)/\a8 p q B (I.1+1,2*I.2+2*B)):=by
 have l:=An (p:=p) (I:=I) hq hB
 rw[← oX, ← oX, ← sY]at l
 have l1:q*I.2-p*2^I.1<0↔q*(2*I.2)-p*2^(I.1+1)<0:=oX I I.2▸A4
 have l2:0<q*(I.2+2*B)-p*2^I.1↔0<q*(2*I.2+2*B+2*B)-p*2^(I.1+1):=sY I.2 B▸oX I (I.2+2*B)▸rL
 exact(and_congr l1 l2).trans (NT l.1 l.2 hw)
theorem xN{p q:Int}{I:Nat×Int}(h:nA p q B I)(hw:q*(2*I.2+2*B)-p*2^(I.1+1)≠0):nA p q B (I.1+1,2*I.2)/\nA p q B (I.1+1,2*I.2+2*B):=by
 exact⟨⟨oX I I.2▸bH (by decide) h.lo,hw⟩,hw,sY I.2 B▸oX I (I.2+2*B)▸bH (by decide) h.hi⟩
theorem wR{I:Nat×Int}(h:dk p1 q1 p2 q2 B I)(hk:I.1<150)(hB:0<=B)(d:q1*(2*I.2+2*B)-p1*2^(I.1+1)≠0)(c:q2*(2*I.2+2*B)-p2*2^(I.1+1)≠0):
  dk p1 q1 p2 q2 B (I.1+1,2*I.2)/\dk p1 q1 p2 q2 B (I.1+1,2*I.2+2*B):=by
 have e:B*2^(I.1+1)=2*(B*2^I.1):=by rw[ki, ← eK,bT]
 have f:0<=2*B:=fW (by decide) hB
 have a: -(B*2^(I.1+1))<=2*I.2:=e▸k8 2 _▸gA h.lo (by decide)
 have b:2*I.2+2*B+2*B<=B*2^(I.1+1):=e▸sY I.2 B▸gA h.hi (by decide)
 exact⟨⟨hk,a,bb (t6 f) b,(xN h.u d).1,(xN h.v c).1⟩,
  ⟨hk,bb a (t6 f),b,(xN h.u d).2,(xN h.v c).2⟩⟩
theorem Ce(I:Nat×Int):iv B (I.1+1,2*I.2)=(dy I.1 I.2,dy (I.1+1) (I.2+(I.2+2*B))):=by
 unfold iv
 simp only[HC,xn]
theorem Aj(I:Nat×Int):iv B (I.1+1,2*I.2+2*B)=(dy (I.1+1) (I.2+(I.2+2*B)),dy I.1 (I.2+2*B)):=by
 unfold iv
 dsimp only
 rw[sY,HC,xn]
theorem Wp{I:Nat×Int}(h1:0<q1)(h2:0<q2)(hB:0<B)(hk:I.1<150)(i1:a8 p1 q1 B I)(i2:a8 p2 q2 B I)(f:q1*(2*I.2+2*B)-p1*2^(I.1+1)≠0)(d:q2*(2*I.2+2*B)-p2*2^(I.1+1)≠0):
  wt p1 q1 p2 q2 B (I.1+1,2*I.2+2*B)+wt p1 q1 p2 q2 B (I.1+1,2*I.2)<wt p1 q1 p2 q2 B I:=by
 have a:=(m5 h1 hB f).mp i1
 have b:=(m5 h2 hB d).mp i2
 unfold wt
 rw[if_pos (show a8 p1 q1 B I/\a8 p2 q2 B I from⟨i1,i2⟩)]
 have e:150-I.1=150-(I.1+1)+1:=(Nat.succ_pred_eq_of_pos (zF hk)).symm
 rw[e]
 dsimp only
 generalize 150-(I.1+1)=w
 by_cases c:a8 p1 q1 B (I.1+1,2*I.2)/\a8 p2 q2 B (I.1+1,2*I.2)
 ·rw[if_pos c,if_neg (by intro z;rcases a with a|a;exact a.2 z.1;exact a.1 c.1)]
  exact zP (iK (rp 1 (2*w+1)))
 ·rw[if_neg c]
  split
  ·exact lU (2*w+2)
  ·exact dr (by decide:2<3) (FB 3 (2*w))
theorem GF{α:Type}: ∀{l:List α},l≠ []->∃p,pq l=some p
 | [],h=>absurd rfl h
 | [x],_=>⟨_,rfl⟩
 |x::y::r,_=>by
  obtain⟨p,hp⟩:=GF (l:=y::r) (by simp)
  exact⟨_,by show Fk _ (pq (y::r))=_;simp only[hp];rfl⟩
end
section
variable {G:aK} {d:Nat} {Γ:Fm} {S:St}
theorem WS.weak{σ σ':Sg}{a:List aW}{Q:aC->Sg->Prop}(hw: ∀S,aN σ S->aN σ' S)(h:WS G d Γ σ' a Q):WS G d Γ σ a Q:=λS hs=>h S (hw S hs)
theorem km{X:Type}{st:X->Sg}{inv:Nat->X->Prop}{Q:aC->Sg->Prop}{n m:Nat}{x':X}(h:m<n)(i:inv m x'):gC st inv Q n .next (st x'):=⟨m,x',h,i,rfl⟩
noncomputable abbrev X3:=List Iv×List Iv×Sl×Sl×Sl×Sl
noncomputable abbrev lj(f:List Int)(row:List (List Int))(B:Int)(x:X3):Sg:=⟨[("f",.val (.l .I f)),("row",.val (.l .P row)),("bound",.val (.i B)),("waiting",.own .W x.1),("found",.own .W x.2.1),("low",x.2.2.1),("high",x.2.2.2.1),("many",x.2.2.2.2.1),("x",x.2.2.2.2.2)],[]⟩
noncomputable abbrev wY:cp:=[("sturm_row",DJ),("root_bound",sE),("count_by_row",yf),("middle",kx),("value_sign",nN)]
theorem dJ.nilk{x:ag}{k k':K}{post:SL}: ∀{pre:SL} {l:cL},dJ (pre++(x,.own k [])::post) l->dJ (pre++(x,.own k' [])::post) l
 | [],_,h=>by
  cases h with
  |cons h1 h2=>cases h1 with
   |own e=>exact .cons (.own e) h2
 |p::pre,_,h=>by
  cases h with
  |cons h1 h2=>exact .cons h1 (dJ.nilk h2)
theorem aN.nilk{x:ag}{k k':K}{pre post c:SL}{S:St}(h:aN ⟨pre++(x,.own k [])::post,c⟩ S):aN ⟨pre++(x,.own k' [])::post,c⟩ S:=⟨h.l.nilk,h.c⟩
inductive lm(i:Nat)(sp:cp)(mt:List ag)(s:aW)(rest:List aW)(Q:aC->Sg->Prop)(ah:Sg):Prop
 |mk (X:Type) (st:X->Sg) (inv:Nat->X->Prop) (n0:Nat) (x0:X) (h0:inv n0 x0) (e: ∀S,aN ah S->aN (st x0) S) (step: ∀n x,inv n x->lu (cy sp) 20 (au i).scope.names mt 4 s (st x) (λah=>sg i sp mt ah rest Q) (gC st inv Q n))
theorem WS.whQ{D:Nat}{sp:cp}{i:Nat}{mt:List ag}{σ:Sg}{l:List aW}{k:Nat}{Q:aC->Sg->Prop}(a:bU G (cy sp) D)(hd:D<=d)(c:Γ.env.scope=(au i).scope)(hk:l.drop k=lp l k::l.drop (k+1))(hw:ux (lp l k)=true)
  (h:sg i sp mt σ (l.take k) λo ah=>match o with
   | .next=>lm i sp mt (lp l k) (l.drop (k+1)) Q ah
   | .ret v=>Q (.ret v) ah):WS G d Γ σ l Q:=by
 have hn:Γ.env.scope.names=(au i).scope.names:=by rw[c]
 refine WS.at_ hk ((bW a hd hn h).mono λo ah q=>?_)
 induction o with
 |ret v=>exact q
 |next=>
  obtain⟨X,st,inv,n0,x0,h0,e,step⟩:=q
  exact WS.weak e (WS.whlG a hd hn hw st inv x0 h0 rfl λn x hx=>⟨_,step n x hx,λb ah q=>⟨λe=>bW a hd hn (q.f e),λe=>bW a hd hn (q.t e)⟩⟩)
def qK(p1 q1 p2 q2 B:Int)(I:Nat×Int):Prop:=(a8 p1 q1 B I/\¬ a8 p2 q2 B I)\/(¬ a8 p1 q1 B I/\a8 p2 q2 B I)
noncomputable def gV(p1 q1 p2 q2 B:Int)(L:List (Nat×Int)):Nat:=(L.map (wt p1 q1 p2 q2 B)).sum
def Cv(p q B:Int)(L Fd:List (Nat×Int)):Prop:=∃I,(I∈L\/I∈Fd)/\a8 p q B I
inductive hV(p1 q1 p2 q2 B:Int)(L Fd:List (Nat×Int)):Prop
 |mk (lQ: ∀I∈L,dk p1 q1 p2 q2 B I) (pR: ∀I∈Fd,dk p1 q1 p2 q2 B I/\qK p1 q1 p2 q2 B I) (c1:Cv p1 q1 B L Fd) (c2:Cv p2 q2 B L Fd) (hl:L.length+Fd.length+gV p1 q1 p2 q2 B L<=1000)
inductive xu(p1 q1 p2 q2 B:Int)(n:Nat)(x:X3):Prop
 |mk (L Fd:List (Nat×Int)) (e1:x.1=L.map (iv B)) (e2:x.2.1=Fd.map (iv B)) (hn:gV p1 q1 p2 q2 B L=n) (i:hV p1 q1 p2 q2 B L Fd)
theorem Cv.snoc{p q B:Int}{L Fd:List (Nat×Int)}{I:Nat×Int}(h:Cv p q B (L++[I]) Fd):Cv p q B L Fd\/a8 p q B I:=by
 obtain⟨J,a,h⟩:=h
 rcases a with a|a
 ·rcases iI.mp a with a|a
  ·exact .inl ⟨J,.inl a,h⟩
  ·rw[bC.mp a]at h;exact .inr h
 ·exact .inl ⟨J,.inr a,h⟩
theorem Cv.more{p q B:Int}{L Fd L2 Fd2:List (Nat×Int)}{I:Nat×Int}(h:Cv p q B (L++[I]) Fd)(hi:a8 p q B I->Cv p q B L2 Fd2):Cv p q B (L++L2) (Fd++Fd2):=by
 rcases h.snoc with h|h
 ·obtain⟨J,a,h⟩:=h
  exact⟨J,a.imp (j8 _) (j8 _),h⟩
 ·obtain⟨J,a,h⟩:=hi h
  exact⟨J,a.imp (iG _) (iG _),h⟩
theorem xy{p1 q1 p2 q2 B:Int}(L M:List (Nat×Int)):gV p1 q1 p2 q2 B (L++M)=gV p1 q1 p2 q2 B L+gV p1 q1 p2 q2 B M:=by
 unfold gV;simp only[jX,List.sum_append]
theorem Kb(p1 q1 p2 q2 B:Int)(I:Nat×Int):1<=wt p1 q1 p2 q2 B I:=by
 unfold wt;split<;>lia
def wZ:aM:=λvs Q=>a1 (λv0=>f7 v0 λa0 a1 a2=>∃p1 q1 p2 q2:Int,(Sq a0 a1 a2 p1 q1 p2 q2/\(Sm 100 a0/\Sm 100 a1/\Sm 100 a2)/\q1*q2<2^40)/\(∀k m,Dk k m->F3 a0 a1 a2 m (2^k)=0->Q (.t2 (.l .I []) (rV (dy k m))))/\∀(B:Int) (Fd:List (Nat×Int)),2<=B->Sm 104 B->Fd.length<=1000->(∀I∈Fd,dk p1 q1 p2 q2 B I/\qK p1 q1 p2 q2 B I)->(∃I∈Fd,a8 p1 q1 B I)->(∃I∈Fd,a8 p2 q2 B I)->Q (.t2 (.l .W (Fd.map (iv B))) .no)) vs
inductive si(p1 q1 p2 q2 B:Int)(f:List Int)(row:List (List Int))(Q:V->Prop):Prop
 |mk (h1:0<q1) (h2:0<q2) (hq:q1*q2<2^40) (hB:Sm 104 B) (be:0<B) (hd:p1*q2≠p2*q1) (hr:row.length<=10/\∀p∈row,fP p) (hf:fP f)
  (Ep: ∀k m,gD row k m=b2 (decide (q1*m-p1*2^k<0))+b2 (decide (q2*m-p2*2^k<0))) (hF: ∀k m,HL f m (2^k)≠0->q1*m-p1*2^k≠0/\q2*m-p2*2^k≠0)
  (yP: ∀k m,Dk k m->HL f m (2^k)=0->Q (.t2 (.l .I []) (rV (dy k m)))) (yQ: ∀Fd:List (Nat×Int),Fd.length<=1000->(∀I∈Fd,dk p1 q1 p2 q2 B I/\qK p1 q1 p2 q2 B I)->(∃I∈Fd,a8 p1 q1 B I)->(∃I∈Fd,a8 p2 q2 B I)->Q (.t2 (.l .W (Fd.map (iv B))) .no))
section
variable {p1 q1 p2 q2 B:Int} {f:List Int} {row:List (List Int)} {Q:V->Prop} {L Fd:List (Nat×Int)} {I:Nat×Int}
theorem hV.drop(h:hV p1 q1 p2 q2 B (L++[I]) Fd)(n1:¬ a8 p1 q1 B I)(a:¬ a8 p2 q2 B I):hV p1 q1 p2 q2 B L Fd:=by
 obtain⟨lQ,pR,c1,c2,hl⟩:=h
 simp only[xy,fF]at hl
 exact⟨λJ h=>lQ J (j8 _ h),pR,c1.snoc.resolve_right n1,c2.snoc.resolve_right a,by(first |lia|omega)⟩
theorem BM(M:List (Nat×Int))(h:gV p1 q1 p2 q2 B M<wt p1 q1 p2 q2 B I):gV p1 q1 p2 q2 B (L++M)<gV p1 q1 p2 q2 B (L++[I]):=by
 simp only[xy,xy];exact pY h _
theorem hV.found(h:hV p1 q1 p2 q2 B (L++[I]) Fd)(o:qK p1 q1 p2 q2 B I):hV p1 q1 p2 q2 B L (Fd++[I]):=by
 obtain⟨lQ,pR,c1,c2,hl⟩:=h
 simp only[xy,fF]at hl
 have w:1<=gV p1 q1 p2 q2 B [I]:=Kb p1 q1 p2 q2 B I
 have c: ∀{p q:Int},Cv p q B (L++[I]) Fd->Cv p q B L (Fd++[I]):=λh=>ou L▸h.more (L2:=[]) λi=>⟨I,.inr (oH _),i⟩
 refine⟨λJ h=>lQ J (j8 _ h),λJ a=>?_,c c1,c c2,by simp only[fF,FP];simp only[FP]at hl;lia⟩
 rcases iI.mp a with a|a
 ·exact pR J a
 ·simp only[bC.mp a];exact⟨lQ I (iG _ (oH _)),o⟩
theorem hV.half(h:hV p1 q1 p2 q2 B (L++[I]) Fd){a M2:Nat×Int}(d:dk p1 q1 p2 q2 B a)(k2:dk p1 q1 p2 q2 B M2)(hw:gV p1 q1 p2 q2 B [a,M2]<wt p1 q1 p2 q2 B I)(i1:a8 p1 q1 B I->a8 p1 q1 B a\/a8 p1 q1 B M2)(i2:a8 p2 q2 B I->a8 p2 q2 B a\/a8 p2 q2 B M2):
  hV p1 q1 p2 q2 B (L++[a,M2]) Fd:=by
 obtain⟨lQ,pR,c1,c2,hl⟩:=h
 have c: ∀{p q:Int},Cv p q B (L++[I]) Fd->(a8 p q B I->a8 p q B a\/a8 p q B M2)->Cv p q B (L++[a,M2]) Fd:=λh i=>ou Fd▸h.more (Fd2:=[]) λj=>(i j).elim (λh=>⟨a,.inl (.head _),h⟩) (λh=>⟨M2,.inl (.tail _ (.head _)),h⟩)
 refine⟨λJ b=>?_,pR,c c1 i1,c c2 i2,?_⟩
 ·rcases iI.mp b with b|b
  ·exact lQ J (j8 _ b)
  ·rcases bz.mp b with e|b
   ·rw[e];exact d
   ·rw[bC.mp b];exact k2
 ·have :=BM (L:=L) [a,M2] hw
  rw[fF]at hl ⊢
  rw[show [I].length=1 from rfl]at hl;rw[show [a,M2].length=2 from rfl];lia
noncomputable abbrev iT(x:Int×Int):Sl:=.val (.t2 (.i x.1) (.i x.2))
def xF(f:List Int)(row:List (List Int))(B:Int)(R:aC->Sg->Prop)(P F:List Iv)(lo hi:Int×Int)(s4:Sl)(c:Int):Prop:=
 aE (c==1) (F.length<10000000/\R .next (lj f row B (P,F++[(lo,hi)],iT lo,iT hi,.val (.i c),s4)))
  (aE (decide (c>1)) (True/\∃(a:Nat) (d b:Int),(lo=dy a d/\hi=dy a b/\Dk a d/\Dk a b)/\∃(g:Nat) (e:Int),(dy (a+1) (d+b)=dy g e/\Dk g e/\fP f)/\
   aE (aT (HL f e (2^g))==0) (R (.ret (.t2 (.l .I []) (rV (dy (a+1) (d+b))))) (lj f row B (P,F,iT lo,iT hi,.val (.i c),iT (dy (a+1) (d+b)))))
    (P.length<10000000/\(P++[(dy (a+1) (d+b),hi)]).length<10000000/\R .next (lj f row B (P++[(dy (a+1) (d+b),hi)]++[(lo,dy (a+1) (d+b))],F,iT lo,iT hi,.val (.i c),iT (dy (a+1) (d+b))))))
   (R .next (lj f row B (P,F,iT lo,iT hi,.val (.i c),s4))))
def iu(f:List Int)(row:List (List Int))(B:Int)(Q:V->Prop)(R:aC->Sg->Prop)(W F:List Iv)(s1 s2 s3 s4:Sl):Prop:=
 aE (!W.isEmpty) (a9 (pq W) λp=>True/\∃(k:Nat) (m n:Int),((p.2.1=dy k m/\p.2.2=dy k n/\Dk k m/\Dk k n/\row.length<=10/\∀p∈row,fP p))/\
  xF f row B R p.1 F p.2.1 p.2.2 s4 (gD row k m-gD row k n)) (Q (.t2 (.l .W F) .no))
theorem QW{α:Type}(l:List α)(a:α):pq (l++[a])=some (l,a):=by
 refine aj λb=>?_
 obtain⟨p,hp⟩:=GF (l:=l++[a]) (by simp)
 have e:=BO hp
 obtain⟨e1,e2⟩:=List.append_inj' e rfl
 refine b ?_
 rw[hp,e1,(List.singleton_inj.mp e2)]
variable {R:aC->Sg->Prop} {s1 s2 s3 s4:Sl}
theorem Ii(C:si p1 q1 p2 q2 B f row Q)(hx:hV p1 q1 p2 q2 B (L++[I]) Fd)(i1:a8 p1 q1 B I)(i2:a8 p2 q2 B I)(z:HL f (I.2+(I.2+2*B)) (2^(I.1+1))≠0):
  hV p1 q1 p2 q2 B (L++[(I.1+1,2*I.2+2*B),(I.1+1,2*I.2)]) Fd/\gV p1 q1 p2 q2 B [(I.1+1,2*I.2+2*B),(I.1+1,2*I.2)]<wt p1 q1 p2 q2 B I:=by
 have ok:dk p1 q1 p2 q2 B I:=by
  refine aj λc=>?_
  obtain⟨lQ,_,_,_,_⟩:=hx
  refine c ?_
  exact lQ I (iG _ (oH _))
 refine aj λc=>?_
 obtain⟨h1,h2,hq,hB,be,hd,_,_,_,hF,_,_⟩:=C
 have hk:=RK h1 h2 hq hB hd i1 i2
 obtain⟨b,a⟩:=hF _ _ z
 rw[show I.2+(I.2+2*B)=2*I.2+2*B by lia]at b a
 obtain⟨d,k2⟩:=wR ok hk (bZ be) b a
 refine c ?_
 have hw:=Wp h1 h2 be hk i1 i2 b a
 have hw:gV p1 q1 p2 q2 B [(I.1+1,2*I.2+2*B),(I.1+1,2*I.2)]<wt p1 q1 p2 q2 B I:=by
  show wt p1 q1 p2 q2 B _+(wt p1 q1 p2 q2 B _+0)<_
  omega
 exact⟨hx.half k2 d hw (λh=>((m5 h1 be b).mp h).symm.imp (·.2) (·.1)) (λh=>((m5 h2 be a).mp h).symm.imp (·.2) (·.1)),hw⟩
theorem Rh(C:si p1 q1 p2 q2 B f row Q)(ok:dk p1 q1 p2 q2 B I)(hn:(z:HL f (I.2+(I.2+2*B)) (2^(I.1+1))≠0)->R .next (lj f row B ((L++[(I.1+1,2*I.2+2*B),(I.1+1,2*I.2)]).map (iv B),Fd.map (iv B),iT (dy I.1 I.2),iT (dy I.1 (I.2+2*B)),.val (.i 2),iT (dy (I.1+1) (I.2+(I.2+2*B))))))(a: ∀v σ,Q v->R (.ret v) σ)
  (hl:L.length<=1000):xF f row B R (L.map (iv B)) (Fd.map (iv B)) (dy I.1 I.2) (dy I.1 (I.2+2*B)) s4 2:=by
 refine aj λb=>?_
 obtain⟨_,_,_,hB,be,_,_,hf,_,_,yP,_⟩:=C
 refine b ?_
 have dm:=ok.dm hB (bZ be)
 refine⟨trivial,I.1,I.2,I.2+2*B,⟨rfl,rfl,ok.d0 hB (bZ be),ok.d1 hB (bZ be)⟩,I.1+1,I.2+(I.2+2*B),⟨rfl,dm,hf⟩,wc (λe=>?_) λe=>?_⟩
 ·have h:=hn λz=>by rw[z]at e;cases e
  rw[jX,show [(I.1+1,2*I.2+2*B),(I.1+1,2*I.2)].map (iv B)=[iv B (I.1+1,2*I.2+2*B)]++[iv B (I.1+1,2*I.2)]from rfl, ← dR,Ce,Aj]at h
  have l1:(L.map (iv B)).length<=1000:=by rw[bi];exact hl
  exact⟨d7 l1 (by decide),by rw[fF];exact d7 (tS l1 _) (show 1000+1<10000000 by decide),h⟩
 ·refine a _ _ (yP _ _ dm ?_)
  rcases gU (HL f (I.2+(I.2+2*B)) (2^(I.1+1))) 0 with z|z|z
  ·rw[fY z]at e;cases e
  ·exact z
  ·rw[gF z]at e;cases e
theorem UM(C:si p1 q1 p2 q2 B f row Q)(ok:dk p1 q1 p2 q2 B I)(hn: ∀a b s1 s2 s3 s4,gV p1 q1 p2 q2 B a<gV p1 q1 p2 q2 B (L++[I])->hV p1 q1 p2 q2 B a b->R .next (lj f row B (a.map (iv B),b.map (iv B),s1,s2,s3,s4)))(d: ∀v σ,Q v->R (.ret v) σ)
  (hx:hV p1 q1 p2 q2 B (L++[I]) Fd) (hl:L.length<=1000) (hf:Fd.length<=1000) {c:Int} (hc:c=(if a8 p1 q1 B I then 1 else 0)+(if a8 p2 q2 B I then 1 else 0)):xF f row B R (L.map (iv B)) (Fd.map (iv B)) (dy I.1 I.2) (dy I.1 (I.2+2*B)) s4 c:=by
 have lt:=BM (p1:=p1) (q1:=q1) (p2:=p2) (q2:=q2) (B:=B) (L:=L) (I:=I) [] (Kb p1 q1 p2 q2 B I)
 rw[ou]at lt
 have fl:(Fd.map (iv B)).length<10000000:=by rw[bi];exact d7 hf (by decide)
 have one:qK p1 q1 p2 q2 B I->xF f row B R (L.map (iv B)) (Fd.map (iv B)) (dy I.1 I.2) (dy I.1 (I.2+2*B)) s4 1:=λo=>by
  have h:=hn _ _ (iT (dy I.1 I.2)) (iT (dy I.1 (I.2+2*B))) (.val (.i 1)) s4 lt (hx.found o)
  rw[jX]at h
  exact⟨fl,h⟩
 by_cases i1:a8 p1 q1 B I
 ·by_cases i2:a8 p2 q2 B I
  ·rw[if_pos i1,if_pos i2]at hc
   rw[hc]
   exact Rh C ok (λz=>(hn _ _ _ _ _ _ (BM _ (Ii C hx i1 i2 z).2) (Ii C hx i1 i2 z).1)) d hl
  ·rw[if_pos i1,if_neg i2]at hc
   rw[hc];exact one (.inl ⟨i1,i2⟩)
 ·by_cases i2:a8 p2 q2 B I
  ·rw[if_neg i1,if_pos i2]at hc
   rw[hc];exact one (.inr ⟨i1,i2⟩)
  ·rw[if_neg i1,if_neg i2]at hc
   rw[hc];exact hn _ _ _ _ _ _ lt (hx.drop i1 i2)
theorem TZ(C:si p1 q1 p2 q2 B f row Q)(hn: ∀a b s1 s2 s3 s4,gV p1 q1 p2 q2 B a<gV p1 q1 p2 q2 B (L++[I])->hV p1 q1 p2 q2 B a b->R .next (lj f row B (a.map (iv B),b.map (iv B),s1,s2,s3,s4)))(d: ∀v σ,Q v->R (.ret v) σ)
  (hx:hV p1 q1 p2 q2 B (L++[I]) Fd):iu f row B Q R ((L++[I]).map (iv B)) (Fd.map (iv B)) s1 s2 s3 s4:=by
 have h:=C
 have c:=hx
 refine aj λg=>?_
 obtain⟨lQ,_,_,_,hl⟩:=c
 obtain⟨h1,h2,_,hB,be,_,hr,_,Ep,_,_,_⟩:=h
 refine g ?_
 have ok:=lQ I (iG _ (oH _))
 have hc:gD row I.1 I.2-gD row I.1 (I.2+2*B)=(if a8 p1 q1 B I then 1 else 0)+(if a8 p2 q2 B I then 1 else 0):=by
  simp only[← F7 h1 be ok.u, ← F7 h2 be ok.v,Ep,Ep];lia
 simp only[fF,FP]at hl
 rw[jX]
 exact wc (λe=>absurd e (by simp)) λz_=>sw (QW _ _) ⟨trivial,I.1,I.2,I.2+2*B,⟨rfl,rfl,ok.d0 hB (bZ be),ok.d1 hB (bZ be),hr⟩,UM C ok hn d hx (by lia) (by lia) hc⟩
theorem TH(C:si p1 q1 p2 q2 B f row Q)(hx:hV p1 q1 p2 q2 B [] Fd):iu f row B Q R [] (Fd.map (iv B)) s1 s2 s3 s4:=by
 refine aj λb=>?_
 obtain⟨_,pR,c1,c2,hl⟩:=hx
 obtain⟨_,_,_,_,_,_,_,_,_,_,_,yQ⟩:=C
 refine b ?_
 have c: ∀{p q:Int},Cv p q B [] Fd->∃I∈Fd,a8 p q B I:=λh=>by
  obtain⟨I,a,h⟩:=h
  exact⟨I,a.resolve_left (by simp),h⟩
 exact yQ Fd (by lia) pR (c c1) (c c2)
theorem NU{n:Nat}{x:X3}(C:si p1 q1 p2 q2 B f row Q)(hn: ∀m x',m<n->xu p1 q1 p2 q2 B m x'->R .next (lj f row B x'))(a: ∀v σ,Q v->R (.ret v) σ)(hx:xu p1 q1 p2 q2 B n x):
  lu (cy wY) 20 (au 64).scope.names ["waiting","found"] 4 (lp (au 64).body 2) (lj f row B x) (λah=>sg 64 wY ["waiting","found"] ah ((au 64).body.drop 3) (aB Q)) R:=by
 obtain⟨W,F,s1,s2,s3,s4⟩:=x
 obtain⟨L,Fd,e1,e2,en,i⟩:=hx
 dsimp only at e1 e2
 rw[e1,e2]
 refine aX (B:=iu f row B Q R (L.map (iv B)) (Fd.map (iv B)) s1 s2 s3 s4) (by kernel_rfl) ?_
 rcases List.eq_nil_or_concat L with e|⟨L',I,e⟩
 ·rw[e]at i ⊢;exact TH C i
 ·simp only[List.concat_eq_append]at e
  rw[e]at i en ⊢
  exact TZ C (λL2 F2 s1 s2 s3 s4 h1 h2=>hn _ _ (en▸h1) ⟨L2,F2,rfl,rfl,rfl,h2⟩) a i
end
theorem OO(B:aP G){D:Nat}(hs:aG G D wY):ao G (D+1) "split_roots" wZ:=eD B (i:=64) (by kernel_rfl) hs λvs Q h=>by
 apply cu h;intro v h0
 apply gY h0;intro a0 a1 a2 u
 refine aj λg=>?_
 obtain⟨p1,q1,p2,q2,⟨sq,⟨t0,t1,t2⟩,hq⟩,yP,yQ⟩:=u
 obtain⟨row,j⟩: ∃row,row=CD a0 a1 a2:=⟨_,rfl⟩
 refine g ?_
 refine⟨rfl,λd Γ hd t w=>WS.whQ (i:=64) (mt:=["waiting","found"]) (k:=2) t hd w (by kernel_rfl) (by kernel_rfl) (aX (B:=((a2≠0/\Sm 200 a0/\Sm 200 a1/\Sm 200 a2/\a7 a0 a1 a2 a1 (a2*2)≠0)/\((3=2\/3=3)/\eC [a0,a1,a2] 0≠0/\∀(x:Int),x∈[a0,a1,a2]->Sm 100 x)/\∀(B:Int),2<=B->Sm 104 B->(∀(n d:Int),0<d->HL [a0,a1,a2] n d=0->(↑(cq n):Int)<B*d)->(lm 64 wY ["waiting","found"] (lp (au 64).body 2) ((au 64).body.drop 3) (aB Q)) (Sg.mk [("f",.val (.l .I [a0,a1,a2])),("row",.val (.l .P [[a0,a1,a2],[a1,a2*2],[-gw (a7 a0 a1 a2 a1 (a2*2))]])),("bound",.val (.i B)),("waiting",.own .W [((-B,1),B,1)]),("found",.own .I []),("low",Sl.any),("high",Sl.any),("many",Sl.any),("x",Sl.any)] []))) (by kernel_rfl) ⟨⟨sq.ne,t0.mono (by decide),t1.mono (by decide),t2.mono (by decide),sq.sgn.1⟩,⟨.inr rfl,sq.ne,by simp[t0,t1,t2]⟩,λC b2 bs hb=>?_⟩)⟩
 have b: ∀n d:Int,q1*n-p1*d=0\/q2*n-p2*d=0->F3 a0 a1 a2 n d=0:=λn d z=>by
  have :=sq.val n d
  have q:=sq.qq
  have :q1*q2*F3 a0 a1 a2 n d=0:=by rcases z with z|z<;>simp only[this,z]<;>simp
  rcases fq.mp this with h|h
  ·trivial
  ·exact h
 have hC:0<C:=by trivial
 have rt: ∀{p q:Int},0<q->(∀n d:Int,q*n-p*d=0->F3 a0 a1 a2 n d=0)->nA p q C (0, -C)/\a8 p q C (0, -C):=λ{p q} h1 hf=>by
  have h:=hb p q h1 (hf p q (by rw[bT];trivial))
  have e1:q*(-C)-p*2^0= -(C*q)-p:=by rw[fp,dh,k8,bT]
  have e2:q*(-C+2*C)-p*2^0=C*q-p:=by rw[fp,dh,rI,Int.neg_add_cancel_left,bT]
  have l1:q*(-C)-p*2^0<0:=e1▸MV (yv h).1
  have l2:0<q*(-C+2*C)-p*2^0:=e2▸wv (yv h).2
  exact⟨⟨Int.ne_of_lt l1,fJ l2⟩,l1,l2⟩
 refine aj λg=>?_
 obtain⟨r,i1⟩:=rt sq.h1 λn d z=>b n d (.inl z)
 obtain⟨o,i2⟩:=rt sq.h2 λn d z=>b n d (.inr z)
 refine g ?_
 have e0: [((-C,1),(C,1))]=[(0, -C)].map (iv C):=by
  show _=[(dy 0 (-C),dy 0 (-C+2*C))]
  simp only[s8,show -C+2*C=C by trivial,s8]
 have c:dk p1 q1 p2 q2 C (0, -C):=⟨dx _,by show -(C*2^0)<= -C;trivial,by show -C+2*C<=C*2^0;trivial,r,o⟩
 refine⟨X3,lj [a0,a1,a2] row C,xu p1 q1 p2 q2 C,_,([((-C,1),(C,1))],[],.any,.any,.any,.any),⟨[(0, -C)],[],e0,rfl,rfl,?_,(λI h=>nomatch h),⟨_,.inl (oH _),i1⟩,⟨_,.inl (oH _),i2⟩,?_⟩,λS s=>?_,λnn x hx=>NU (f:=[a0,a1,a2]) (row:=row) (Q:=Q) (n:=nn) (R:=gC (lj [a0,a1,a2] row C) (xu p1 q1 p2 q2 C) (aB Q) nn) ⟨sq.h1,sq.h2,hq,bs,hC,sq.di,?_,⟨.inr (.inr rfl),?_⟩,?_,?_,yP,(yQ C · b2 bs)⟩ (λm x' h i=>km h i) (λv σ h=>h) hx⟩
 ·intro I h;obtain rfl:=bC.mp h;exact c
 ·show 1+0+(wt p1 q1 p2 q2 C (0, -C)+0)<=1000
  unfold wt;split<;>trivial
 ·subst j
  exact s.nilk (pre:=[_,_,_,_]) (post:=[_,_,_,_])
 ·subst j
  refine⟨by show 3<=10;decide,λp hp=>?_⟩
  have a: ∀{k:Nat} {x:Int},k<=300->Sm k x->Sm 300 x:=λh q=>q.mono h
  unfold CD at hp
  simp only[bz,gT,or_false]at hp
  rcases hp with rfl|rfl|rfl
  ·exact HW (a (by decide) t0) (a (by decide) t1) (a (by decide) t2)
  ·exact AW (a (by decide) t1) (a (by decide) (t2.mul (Sm.lit (x:=2) (by rfl))))
  ·refine Cu ?_
   rcases Int.sign_trichotomy (a7 a0 a1 a2 a1 (a2*2))with e|e|e<;>rw[e]<;>exact Sm.iff.mpr (by decide)
 ·simp[t0.mono (show 100<=300 by decide),t1.mono (show 100<=300 by decide),t2.mono (show 100<=300 by decide)]
 ·subst j;exact sq.chg
 ·exact λk m h=>⟨λz=>h (b m (2^k) (.inl z)),λz=>h (b m (2^k) (.inr z))⟩
end
section
variable {G:aK} {d:Nat} {Γ:Fm} {S:St}
structure dt(g:Int)(p p':List Int):Prop where
 ne:g≠0
 e:p=p'.map (g* ·)
 last:0<p'.getLastD 0
 cop:aD p'=1
def Nx(p:List Int)(Q:List Int->Prop):Prop:=match p with
 | [a0,a1]=>(a1≠0/\Sm 300 a1)/\∀g c0 c1,dt g [a0,a1] [c0,c1]->Q [c0,c1]
 | [a0,a1,a2]=>(a2≠0/\Sm 300 a2)/\∀g c0 c1 c2,dt g [a0,a1,a2] [c0,c1,c2]->Q [c0,c1,c2]
 |_=>False
theorem Il(g:Int): ∀(l:List Int) (k:Int),((l.map (g* ·)).foldl (λg x=>(bp g x:Int)) (g.natAbs*k))=g.natAbs*(l.foldl (λg x=>(bp g x:Int)) k):=by
 intro l
 induction l with
 |nil=>intro k;rfl
 |cons x l a=>
  intro k
  simp only[gr,wm,wm, ← a]
  congr 1
  rw[show bp (g.natAbs*k) (g*x)=g.natAbs*bp k x from ?_,jx]
  rcases Int.natAbs_eq g with h|h
  ·rw[← h,FL]
  ·have :g*x=(g.natAbs:Int)* -x:=by rw[k8, ← MZ, ← h]
   simp only[this,FL,Int.gcd_neg,oz]
theorem IX: ∀(l:List Int) (k:Int),0<=k->0<=l.foldl (λg x=>(bp g x:Int)) k
 | [],k,h=>h
 |x::l,k,h=>IX l _ (jz _)
theorem SX(g:Int)(l:List Int):(l.map (g* ·)).getLastD 0=g*l.getLastD 0:=by
 simp only[wq,wq,List.getLast?_map]
 cases l.getLast?<;>simp
theorem Jb{p:List Int}(h:p.getLastD 0≠0):dt (if p.getLastD 0>0 then aD p else -(aD p)) p (p.map λx=>x.fdiv (if p.getLastD 0>0 then aD p else -(aD p))):=by
 refine aj λi=>?_
 obtain⟨g,hg⟩: ∃g,g=(if p.getLastD 0>0 then aD p else -(aD p)):=⟨_,rfl⟩
 refine i ?_
 have hm:p.getLastD 0∈p:=by
  rw[wq]at h ⊢
  cases e:p.getLast? with
  |none=>rw[e]at h;exact absurd rfl h
  |some x=>exact Yb e
 have hp:=mi hm h
 have hn:0<=aD p:=IX p 0 (by decide)
 have h0:g≠0:=by rw[hg];split;exact hp;exact Int.neg_ne_zero.mpr hp
 have hd: ∀x∈p,g∣x:=λx hx=>by
  rw[hg];split
  ·exact jm hx
  ·exact Int.neg_dvd.mpr (jm hx)
 have e:p=(p.map λx=>x.fdiv g).map (g* ·):=by
  rw[jy]
  have : ∀x∈p,((g* ·) ∘ λx=>x.fdiv g) x=id x:=λx hx=>Int.mul_fdiv_cancel' (hd x hx)
  simp only[tN this,zj]
 have e2:aD p=g.natAbs*aD (p.map λx=>x.fdiv g):=by
  have :=Il g (p.map λx=>x.fdiv g) 0
  simp only[cP, ← e]at this;exact this
 have b:p.getLastD 0=g*(p.map λx=>x.fdiv g).getLastD 0:=by rw[← SX, ← e]
 have d:(g.natAbs:Int)=aD p:=by rw[hg];split;exact p6 hn;rw[jg];exact p6 hn
 rw[← hg]
 refine⟨h0,e,?_,?_⟩
 ·have a:0<aD p:=rq.mpr ⟨hn,ot hp⟩
  by_cases c:p.getLastD 0>0
  ·rw[if_pos c]at hg
   exact t5 (hg▸b▸c) a
  ·rw[if_neg c]at hg
   have c2:p.getLastD 0<0:=rq.mpr ⟨fX.mp c,h⟩
   rw[b]at c2
   have f:g*(p.map λx=>x.fdiv g).getLastD 0= -(aD p*(p.map λx=>x.fdiv g).getLastD 0):=(congrArg (· *_) hg).trans (MZ _ _)
   exact t5 (Int.neg_neg_iff_pos.mp (f▸c2)) a
 ·rw[d]at e2
  have :=k9 hp (show aD p*aD (p.map λx=>x.fdiv g)=aD p*1 by simp only[dh];exact e2.symm)
  exact this
theorem dt.two{g a0 a1 c0 c1:Int}(h:dt g [a0,a1] [c0,c1]):a0=g*c0/\a1=g*c1/\0<c1:=⟨by have :=h.e;injection this,by have :=h.e;injection this with _ h;injection h,h.last⟩
theorem dt.three{g a0 a1 a2 c0 c1 c2:Int}(h:dt g [a0,a1,a2] [c0,c1,c2]):a0=g*c0/\a1=g*c1/\a2=g*c2/\0<c2:=⟨by have :=h.e;injection this,by have :=h.e;injection this with _ h;injection h,by have :=h.e;injection this with _ h;injection h with _ h;injection h,h.last⟩
theorem de{g c:Int}{k:Nat}(hg:g≠0)(h:Sm k (g*c)):Sm k c:=h.of_le (by rw[fH];exact XT _ (by lia))
theorem dt.trans{f g:Int}{p q r:List Int}(h1:dt f p q)(h2:dt g q r):dt (f*g) p r:=⟨bH h1.ne h2.ne,by simp only[h1.e,h2.e,jy];congr 1;funext x;exact(eK f g x).symm,h2.last,h2.cop⟩
def sJ:aM:=λvs Q=>a1 (λv0=>bq v0 λp=>Nx p λl=>Q (.l .I l)) vs
theorem JL{p:List Int}(h:p.getLastD 0≠0)(hs:Sm 300 (p.getLastD 0)):aD p≠0/\bk (aD p) 8000=true/\bk (-(aD p)) 8000=true:=by
 have hm:p.getLastD 0∈p:=by
  rw[wq]at h ⊢
  cases e:p.getLast? with
  |none=>rw[e]at h;exact absurd rfl h
  |some x=>exact Yb e
 have g1:=oP hm h hs
 exact⟨mi hm h,g1.mono (by decide),BN g1⟩
theorem Tz{D:Nat}(h:ao G D "zprimitive" sN):ao G D "zprimitive" sJ:=h.weak λvs Q h=>by
 apply cu h;intro v h0
 apply bL h0;intro p hq
 try clear h0
 try clear h
 revert hq
 revert p
 refine l4 ?_ ?_ ?_ ?_ ?_ ?_
 ·intro hq
  exact hq.elim
 ·intro _ hq
  exact hq.elim
 ·intro a0 a1 hq
  exact⟨⟨by show 2<=1000000;decide,λa=>JL (p:=[a0,a1]) hq.1.1 hq.1.2⟩,by rw[if_neg (by simp)];exact hq.2 _ _ _ (Jb (p:=[a0,a1]) hq.1.1)⟩
 ·intro a0 a1 a2 hq
  exact⟨⟨by show 3<=1000000;decide,λa=>JL (p:=[a0,a1,a2]) hq.1.1 hq.1.2⟩,by rw[if_neg (by simp)];exact hq.2 _ _ _ _ (Jb (p:=[a0,a1,a2]) hq.1.1)⟩
 ·intro _ _ _ _ hq
  exact hq.elim
 ·intro _ _ _ _ _ _ hq
  exact hq.elim
def uN:aM:=λvs Q=>a2 (λv0 v1=>f7 v0 λa0 a1 a2=>c5 v1 λb a=>(a2≠0/\a≠0/\cz a0 a1 a2 b a)/\(a7 a0 a1 a2 b a=0->∀g c0 c1 n:Int,dt g [b,a] [c0,c1]->n≠0->(∀x∈[a0,a1,a2],n∣x)->Q (.l .I [c0*n,c1*n]))/\(a7 a0 a1 a2 b a≠0->∀x:Int,Q (.l .I [x]))) vs
theorem Uz(B:aP G){D:Nat}(hs:aG G D [("zprimitive",sJ),("zcontent",fQ),("zscale",jo),("gcd",jB),("subresultants",u3)]):ao G (D+1) "zgcd" uN:=bJ B (i:=45) (D:=D) (sp:=[("zprimitive",sJ),("zcontent",fQ),("zscale",jo),("gcd",jB),("subresultants",u3)]) [] (by kernel_rfl) hs λvs Q h=>by
 apply bI h;intro v0 v1 h0
 apply gY h0;intro a0 a1 a2 h1
 apply dn h1;intro b a s
 obtain⟨hp,hq⟩:=s
 refine⟨rfl,bP (α:=gd 45 [("zprimitive",sJ),("zcontent",fQ),("zscale",jo),("gcd",jB),("subresultants",u3)] [] [(.l .I [a0,a1,a2]),(.l .I [b,a])] (aB Q)) (β:=(a2≠0/\Sm 300 a2)/\∀(g c0 c1 c2:Int),dt g [a0,a1,a2] [c0,c1,c2]->(a≠0/\Sm 300 a)/\∀(g j c:Int),dt g [b,a] [j,c]->(c≠0/\cz c0 c1 c2 j c)/\aE (a7 c0 c1 c2 j c==0) ((c≠0/\Sm 300 c)/\∀(g c0 c1:Int),dt g [j,c] [c0,c1]->(2<=1000000/\aq c0 (↑(bp (aD [a0,a1,a2]) (aD [b,a])):Int)=true/\aq c1 (↑(bp (aD [a0,a1,a2]) (aD [b,a])):Int)=true)/\aE ((↑(bp (aD [a0,a1,a2]) (aD [b,a])):Int)==0) (Q (V.l K.I [])) (Q (V.l K.I [c0*(↑(bp (aD [a0,a1,a2]) (aD [b,a])):Int),c1*(↑(bp (aD [a0,a1,a2]) (aD [b,a])):Int)]))) (Q (V.l K.I [(↑(bp (aD [a0,a1,a2]) (aD [b,a])):Int)]))) (by kernel_rfl) ?_⟩
 refine aj λf=>?_
 obtain⟨h2,h1,⟨s0,s1,s2⟩,t0,t1⟩:=hp
 refine f ?_
 refine⟨⟨h2,s2⟩,λg c0 c1 c2 d=>⟨⟨h1,t1⟩,λh d0 d1 hR=>?_⟩⟩
 refine aj λf=>?_
 obtain⟨e0,e1,e2,hc⟩:=d.three
 obtain⟨f0,f1,hd⟩:=hR.two
 refine f ?_
 have n:g^1*h^2*(1*a7 c0 c1 c2 d0 d1)=a7 a0 a1 a2 b a:=by simp only[JJ, ← e0, ← e1, ← e2, ← f0, ← f1]
 simp only[e0]at s0
 simp only[e1]at s1
 simp only[e2]at s2
 simp only[f0]at t0
 simp only[f1]at t1
 refine⟨⟨by trivial,⟨de d.ne s0,de d.ne s1,de d.ne s2⟩,de hR.ne t0,de hR.ne t1⟩,cw (λe=>⟨⟨by trivial,de hR.ne t1⟩,λk x0 x1 m=>?_⟩) (λe=>?_)⟩
 ·have hz:a7 c0 c1 c2 d0 d1=0:=by simpa using e
  have hr:a7 a0 a1 a2 b a=0:=by simp only[← n,hz,cP,cP]
  refine aj λf=>?_
  obtain⟨r,q,hx⟩:=m.two
  refine f ?_
  have p:=de hR.ne t0
  have o:=de hR.ne t1
  simp only[r]at p
  simp only[q]at o
  have hn:(bp (aD [a0,a1,a2]) (aD [b,a]):Int)≠0:=λz=>by
   have :bp (aD [a0,a1,a2]) (aD [b,a])=0:=by trivial
   exact mi (l:=[b,a]) (x:=a) (by simp) h1 (XS.mp this).2
  have hs:Sm 300 (bp (aD [a0,a1,a2]) (aD [b,a]):Int):=by
   have g1:Sm 300 (aD [b,a]):=oP (x:=a) (by simp) h1 (by simp only[f1];exact t1)
   refine g1.of_le ?_
   exact MJ (by have :=mi (l:=[b,a]) (x:=a) (by simp) h1;trivial) (by have :=Int.gcd_dvd_natAbs_right (aD [a0,a1,a2]) (aD [b,a]);exact this)
  refine⟨⟨by decide,Sm.ok (de m.ne p) hs (by decide) (by decide),Sm.ok (de m.ne o) hs (by decide) (by decide)⟩,cw (λz=>absurd (by simpa using z) hn) (λz_=>hq.1 hr _ _ _ _ (hR.trans m) hn λx hx=>rF (zU ..) (jm hx))⟩
 ·have hz:a7 c0 c1 c2 d0 d1≠0:=by simpa using e
  refine hq.2 (λz=>?_) _
  simp only[z,oG,kS]at n
  exact bH (bH d.ne (Int.pow_ne_zero hR.ne)) hz n
end
section
variable {G:aK} {d:Nat} {Γ:Fm} {S:St}
structure cv(a0 a1 a2 c:Int)(x y:Int×Int):Prop where
 ne:c≠0
 nx:b7 x
 ny:b7 y
 e0:a0=c*(x.1*y.1)
 e1:a1= -(c*(x.1*y.2+y.1*x.2))
 e2:a2=c*(x.2*y.2)
 s0:Sm 100 a0
 s1:Sm 100 a1
 s2:Sm 100 a2
structure cM(c0 c1 c:Int)(x:Int×Int):Prop where
 ne:c≠0
 nx:b7 x
 e0:c0= -(c*x.1)
 e1:c1=c*x.2
 s0:Sm 100 c0
 s1:Sm 100 c1
theorem cv.a2{a0 a1 a2 c:Int}{x y:Int×Int}(h:cv a0 a1 a2 c x y):a2≠0:=by
 rw[h.e2];exact bH h.ne (bH (by have :=h.nx.pos;trivial) (by have :=h.ny.pos;trivial))
theorem cv.sq{a0 a1 a2 c:Int}{x y:Int×Int}(h:cv a0 a1 a2 c x y)(n:x≠y):Sq a0 a1 a2 x.1 x.2 y.1 y.2:=
 ⟨h.nx.pos,h.ny.pos,h.a2,by simp only[h.e1,h.e2];grind,by simp only[h.e0,h.e2];grind,λe=>n (h.nx.uniq h.ny e)⟩
theorem cv.dbl{a0 a1 a2 c:Int}{x:Int×Int}(h:cv a0 a1 a2 c x x):a7 a0 a1 a2 a1 (a2*2)=0:=by
 unfold a7;simp only[h.e0,h.e1,h.e2];grind
theorem QA(c0 c1:Int):aD [c0,c1]=bp c0 c1:=by
 show((bp (bp 0 c0:Nat) c1:Nat):Int)=_
 rw[MM];unfold bp;simp only[oz]
theorem G1{u v:Int}{k:Nat}(h:Sm k (u*v))(a:v=0->u=0):Sm k u:=by
 by_cases z:v=0
 ·rw[a z];exact Sm.zero
 ·exact de z (by rw[bT];exact h)
theorem Ta{n c p q:Int}(h:bp p q=1)(h1:n∣c*(p*p))(h2:n∣c*(q*q)):n∣c:=by
 have hc:bp (p*p) (q*q)=1:=by
  unfold bp at h ⊢
  simp only[fH,fH]
  have h:Nat.Coprime p.natAbs q.natAbs:=h
  exact(h.mul_left h).mul_right (h.mul_left h)
 have :=Int.dvd_coe_gcd h1 h2
 simp only[FL,hc,FM]at this
 exact Int.dvd_natAbs.mp this
def o8:aM:=λvs Q=>a1 (λv0=>f7 v0 λa0 a1 a2=>True/\∃(c:Int) (x y:Int×Int),cv a0 a1 a2 c x y/\(x=y->∀c0 c1 e:Int,cM c0 c1 e x->e∣c->Q (.l .I [c0,c1]))/\(x≠y->Q (.l .I [a0,a1,a2]))) vs
def JK(a0 a1 a2 c0 c1 n:Int)(Q:V->Prop):Prop:=True/\∃a c2,(c1*n≠0/\c2≠0/\Sm 300 (c0*n)/\Sm 300 (c1*n)/\Sm 300 c2/\Sm 300 a)/\(a2=c1*n*c2/\a1=c1*n*a+c0*n*c2/\a0=c0*n*a)/\Q (V.l K.I [a,c2])
theorem WL{a0 a1 a2 c g c0 c1 n:Int}{x:Int×Int}{Q:V->Prop}(a:cv a0 a1 a2 c x x)(hF:dt g [a1,a2*2] [c0,c1])(hn:n≠0)(hd: ∀z:Int,z∈[a0,a1,a2]->∃c,z=n*c)(s: ∀c0 c1 e:Int,cM c0 c1 e x->e∣c->Q (.l .I [c0,c1])):JK a0 a1 a2 c0 c1 n Q:=by
 obtain⟨p,q⟩:=x
 obtain⟨f0,f1,t⟩:=hF.two
 obtain⟨e0,e1,e2⟩:a0=c*(p*p)/\a1= -(c*(p*q+p*q))/\a2=c*(q*q):=⟨a.e0,a.e1,a.e2⟩
 have b:bp p q=1:=a.nx.cop
 have Lq:0<q:=a.nx.pos
 have n1:b7 (-c0,c1):=⟨t,by
  have :=hF.cop
  rw[QA]at this
  show bp (-c0) c1=1
  rw[Int.neg_gcd];trivial⟩
 have hx:(-c0,c1)=(p,q):=by
  refine n1.uniq a.nx ?_
  show -c0*q=p*c1
  have hg:=hF.ne
  refine k9 hg ?_
  simp only[show g*(-c0*q)= -(g*c0)*q by grind,show g*(p*c1)=p*(g*c1) by grind, ← f0, ← f1,e1,e2];grind
 obtain⟨yS,v⟩:=ik hx
 obtain rfl:c0= -p:=by trivial
 subst v
 have d0:n∣c*(p*p):=by rw[← e0];exact hd a0 (by simp)
 have w:n∣c*(c1*c1):=by rw[← e2];exact hd a2 (by simp)
 obtain⟨e,he⟩:=Ta b d0 w
 subst he
 have d:e≠0:=λz=>a.ne (by simp only[z,cP])
 have q0:c1≠0:=by trivial
 have f:a2=c1*n*(e*c1):=by rw[e2];grind
 have r:a1=c1*n* -(e*p)+ -p*n*(e*c1):=by simp only[e1];grind
 have h:a0= -p*n* -(e*p):=by simp only[e0];grind
 have v2:=a.s2
 rw[f]at v2
 have v0:=a.s0
 rw[h]at v0
 have k:e*c1≠0:=bH d q0
 have o: -(e*p)=0-> -p*n=0:=λz=>by
  have :p=0:=(fq.mp (show e*p=0 by trivial)).resolve_left d
  rw[this];simp
 have m: -p*n=0-> -(e*p)=0:=λz=>by
  have :p=0:=by have :=(fq.mp z).resolve_right hn;trivial
  rw[this];simp
 have r1:=G1 v0 o
 have j:=G1 (by rw[bT];exact v0) m
 have i:=de (bH q0 hn) v2
 have u:=de k (by rw[bT];exact v2)
 exact⟨trivial, -(e*p),e*c1,⟨bH q0 hn,k,r1.mono (by decide),u.mono (by decide),i.mono (by decide),j.mono (by decide)⟩,⟨f,r,h⟩,s _ _ e ⟨d,a.nx,rfl,rfl,j,i⟩ (Int.dvd_mul_left ..)⟩
theorem UF(B:aP G){D:Nat}(hs:aG G D [("zgcd",uN),("zderive",jp),("zdegree",cZ),("zexact",nG)]):ao G (D+1) "simple_part" o8:=bJ B (i:=51) (D:=D) (sp:=[("zgcd",uN),("zderive",jp),("zdegree",cZ),("zexact",nG)]) [] (by kernel_rfl) hs λvs Q h=>by
 apply cu h;intro v0 h0
 apply gY h0;intro a0 a1 a2 m
 obtain⟨hp,hq⟩:=m
 refine⟨rfl,bP (α:=gd 51 [("zgcd",uN),("zderive",jp),("zdegree",cZ),("zexact",nG)] [] [(.l .I [a0,a1,a2])] (aB Q)) (β:=(3<=1000/\∀(x:Int×Int),x∈[(0,a0),(1,a1),(2,a2)]->aq x.2 x.1=true)/\(a2≠0/\a2*2≠0/\cz a0 a1 a2 (a1*1) (a2*2))/\(a7 a0 a1 a2 (a1*1) (a2*2)=0->∀(g c0 c1 n:Int),dt g [a1*1,a2*2] [c0,c1]->n≠0->(∀(x:Int),x∈[a0,a1,a2]->∃c,x=n*c)->JK a0 a1 a2 c0 c1 n Q)/\(a7 a0 a1 a2 (a1*1) (a2*2)≠0->∀(x:Int),Q (V.l K.I [a0,a1,a2]))) (by kernel_rfl) ?_⟩
 refine aj λo=>?_
 obtain⟨c,x,y,a,d,k⟩:=hq
 refine o ?_
 have t0:=a.s0.mono (show 100<=300 by decide)
 have t1:=a.s1.mono (show 100<=300 by decide)
 have t2:=a.s2.mono (show 100<=300 by decide)
 have j:Sm 300 (a1*1):=by rw[dh];exact t1
 have f:Sm 300 (a2*2):=(a.s2.mul (Sm.lit (x:=2) (by decide))).mono (by decide)
 refine⟨⟨by decide,λz hz=>?_⟩,⟨a.a2,bH a.a2 (by decide),⟨t0,t1,t2⟩,j,f⟩,λhr g c0 c1 n hF hn hd=>?_,λhr z_=>k λe=>?_⟩
 ·simp only[bz,gT,or_false]at hz
  rcases hz with rfl|rfl|rfl
  ·exact Sm.ok t0 (Sm.lit (x:=0) (by decide)) (by decide) (by decide)
  ·exact Sm.ok t1 (Sm.lit (x:=1) (by decide)) (by decide) (by decide)
  ·exact Sm.ok t2 (Sm.lit (x:=2) (by decide)) (by decide) (by decide)
 ·rw[dh]at hr hF
  have b:x=y:=Decidable.byContradiction λz=>(a.sq z).sgn.1 hr
  simp only[← b]at a
  exact WL a hF hn hd (d b)
 ·subst e
  rw[dh]at hr
  exact hr a.dbl
end
section
variable {G:aK} {d:Nat} {Γ:Fm} {S:St}
noncomputable def K.rats(k:K):List k.D->Option (List (Int×Int)):=match k with
 | .R=>some
 |_=>λz_=>none
def Bp(v:V)(Q:Int×Int->Prop):Prop:=match v with
 | .l c xs=>a9 (c.rats xs) λl=>match l with
  | [x]=>Q x
  |_=>False
 |_=>False
theorem Qz{v:V}{Q:Int×Int->Prop}(h:Bp v Q): ∃x,v= .l .R [x]/\Q x:=by
 induction v with
 |l c xs=>
  obtain⟨y,e,q⟩:=dS (show a9 (c.rats xs) _ from h)
  cases c<;>cases e
  match y,q with
  | [x],q=>exact⟨x,rfl,q⟩
 |_=>exact h.elim
theorem QL{v:V}{Q:Int×Int->Prop}{C:V->Prop}(h:Bp v Q)(c: ∀x,Q x->C (.l .R [x])):C v:=by
 obtain⟨x,rfl,q⟩:=Qz h;exact c x q
theorem A9{a c:Int}:decide (b2 (decide (a-c>0))-b2 (decide (a-c<0))<=0)=decide (a<=c):=by
 rcases gU a c with h|h|h
 ·simp only[decide_eq_false (show ¬ a-c>0 by trivial),decide_eq_true (show a-c<0 by trivial),decide_eq_true (show a<=c by trivial)];rfl
 ·simp only[decide_eq_false (show ¬ a-c>0 by trivial),decide_eq_false (show ¬ a-c<0 by trivial),decide_eq_true (show a<=c by trivial)];rfl
 ·simp only[decide_eq_true (show a-c>0 by trivial),decide_eq_false (show ¬ a-c<0 by trivial),decide_eq_false (show ¬ a<=c by trivial)];rfl
theorem Ud(k:Nat)(m:Int)(x:Int×Int):decide ((dy k m).1*x.2<=x.1*(dy k m).2)=decide (x.2*m<=x.1*2^k):=by
 refine aj λa=>?_
 obtain⟨g,hg,e1,e2,_⟩:=fu k m
 refine a ?_
 generalize dy k m=y at *
 have h1:x.2*m=g*(y.1*x.2):=by rw[e1];grind
 have h2:x.1*2^k=g*(x.1*y.2):=by rw[e2];grind
 simp only[h1,h2,decide_eq_decide]
 exact(Yc hg).symm
theorem T8(k:Nat)(m:Int)(x:Int×Int):decide (x.1*(dy k m).2<=(dy k m).1*x.2)=decide (x.1*2^k<=x.2*m):=by
 refine aj λa=>?_
 obtain⟨g,hg,e1,e2,_⟩:=fu k m
 refine a ?_
 generalize dy k m=y at *
 have h1:x.2*m=g*(y.1*x.2):=by simp only[e1];grind
 have h2:x.1*2^k=g*(x.1*y.2):=by rw[e2];grind
 simp only[h1,h2,decide_eq_decide]
 exact(Yc hg).symm
theorem Az{k:Nat}{m n:Int}(h:dy k m=dy k n):m=n:=by
 obtain⟨g,hg,e1,e2,hn⟩:=fu k m
 obtain⟨g',nS,b,a,_⟩:=fu k n
 rw[← h]at b a
 rw[e2]at a
 rw[e1,b,X0 (by have :=hn.pos;trivial) a]
noncomputable def lD(y x:Int×Int)(B:Int):Nat->Nat×Int->Iv
 |0,I=>iv B I
 |n+1,I=>if x.2*I.2<=x.1*2^I.1/\x.1*2^I.1<=x.2*(I.2+2*B)then
   if y.2*(2*I.2+2*B)-y.1*2^(I.1+1)=0 then(dy (I.1+1) (I.2+(I.2+2*B)),dy (I.1+1) (I.2+(I.2+2*B)))
   else if y.2*(2*I.2+2*B)-y.1*2^(I.1+1)<0 then lD y x B n (I.1+1,2*I.2+2*B)else lD y x B n (I.1+1,2*I.2)
  else iv B I
theorem cM.F{c0 c1 c:Int}{y:Int×Int}(h:cM c0 c1 c y)(n d:Int):F2 c0 c1 n d=c*(y.2*n-y.1*d):=by unfold F2;rw[h.e0,h.e1];grind
theorem cM.sgn{c0 c1 c:Int}{y:Int×Int}(h:cM c0 c1 c y)(n d:Int):aT (F2 c0 c1 n d)=aT c*aT (y.2*n-y.1*d):=by simp only[h.F,ky]
theorem WZ{c:Int}(h:c≠0):aT c=1\/aT c= -1:=by
 rcases oE h with z|z
 ·exact .inr (fY z)
 ·exact .inl (gF z)
theorem JN{c u w:Int}(hc:c≠0)(b:u<0):(aT c*aT w==0)=decide (w=0)/\(w≠0->(aT c*aT w==aT c*aT u)=decide (w<0)):=by
 rw[fY b]
 rcases WZ hc with e|e<;>rw[e]<;>rcases gU w 0 with q|q|q
 ·rw[fY q,decide_eq_false (show ¬ w=0 by trivial),decide_eq_true q];exact⟨rfl,λa=>rfl⟩
 ·subst q;exact⟨rfl,λz=>absurd rfl z⟩
 ·rw[gF q,decide_eq_false (show ¬ w=0 by trivial),decide_eq_false (show ¬ w<0 by trivial)];exact⟨rfl,λa=>rfl⟩
 ·rw[fY q,decide_eq_false (show ¬ w=0 by trivial),decide_eq_true q];exact⟨rfl,λa=>rfl⟩
 ·subst q;exact⟨rfl,λz=>absurd rfl z⟩
 ·rw[gF q,decide_eq_false (show ¬ w=0 by trivial),decide_eq_false (show ¬ w<0 by trivial)];exact⟨rfl,λa=>rfl⟩
noncomputable abbrev xU(c0 c1:Int)(x:Int×Int)(J:Iv):Sg:=⟨[("f",.val (.l .I [c0,c1])),("numbers",.val (.l .R [x]))],[("interval",.val (K.toV .W J))]⟩
inductive td(y x:Int×Int)(B:Int)(res:Iv)(n:Nat)(J:Iv):Prop
 |go (I:Nat×Int) (e:J=iv B I) (ok:dk y.1 y.2 y.1 y.2 B I) (i:a8 y.1 y.2 B I) (hn:I.1+n=151) (hr:lD y x B n I=res)
 |fin (z:Int×Int) (e:J=(z,z)) (hr:J=res)
def pE:aM:=λvs Q=>a2 (λv0 v1=>du v0 λx=>nE v1 λI=>True/\∃(k:Nat) (m n:Int),(I=(dy k m,dy k n)/\Dk k m/\Dk k n/\Sm 2000 x.1/\Sm 2000 x.2)/\Q (.b (decide (x.2*m<=x.1*2^k)&&decide (x.1*2^k<=x.2*n)))) vs
theorem OC(B:aP G){D:Nat}(hs:aG G D [("rcompare",qm)]):ao G (D+1) "is_inside" pE:=bJ B (i:=63) (D:=D) (sp:=[("rcompare",qm)]) [] (by kernel_rfl) hs λvs Q h=>by
 apply bI h;intro v0 v1 h0
 apply dY h0;intro x h1
 apply qD h1;intro I a
 obtain⟨hp,hq⟩:=a
 refine⟨rfl,bP (α:=gd 63 [("rcompare",qm)] [] [(rV x),(K.toV .W I)] (aB Q)) (β:=(aq I.1.1 x.2=true/\aq x.1 I.1.2=true)/\aE (decide (b2 (decide (ai I.1*ak x-ai x*ak I.1>0))-b2 (decide (ai I.1*ak x-ai x*ak I.1<0))<=0)) ((aq x.1 I.2.2=true/\aq I.2.1 x.2=true)/\Q (V.b (decide (b2 (decide (ai x*ak I.2-ai I.2*ak x>0))-b2 (decide (ai x*ak I.2-ai I.2*ak x<0))<=0)))) (Q (V.b false))) (by kernel_rfl) ?_⟩
 refine aj λc=>?_
 obtain⟨k,m,n,⟨rfl,h1,h2,s1,s2⟩,hq⟩:=hq
 refine c ?_
 refine⟨⟨Sm.ok h1.s1 s2 (by decide) (by decide),Sm.ok s1 h1.s2 (by decide) (by decide)⟩,?_⟩
 simp only[A9,A9,Ud,T8]
 refine cw (λe=>⟨⟨Sm.ok s1 h2.s2 (by decide) (by decide),Sm.ok h2.s1 s2 (by decide) (by decide)⟩,?_⟩) (λe=>?_)
 ·simp only[e]at hq;exact hq
 ·simp only[e]at hq;exact hq
def xA:aM:=λvs Q=>a3 (λv0 v1 v2=>bq v0 λf=>nE v1 λI=>HB v2 (True/\Q (K.toV .W I))) vs
theorem W0(B:aP G){D:Nat}(hs:aG G D [("is_inside",pE)]):ao G (D+1) "kept_off" xA:=bJ B (i:=66) (D:=D) (sp:=[("is_inside",pE)]) [] (by kernel_rfl) hs λvs Q h=>by
 apply mY h;intro v0 v1 v2 h0
 apply bL h0;intro f h1
 apply qD h1;intro I h2
 obtain⟨rfl,hp,hq⟩:=SN h2
 refine⟨rfl,bP (α:=gd 66 [("is_inside",pE)] [] [(.l .I f),(K.toV .W I),(.l .I [])] (aB Q)) (β:=aE (!(ai I.1==ai I.2&&ak I.1==ak I.2)) (0<=1000000/\∃(k:K) (F:K.D K.I->K.D k),(∀(x:K.D K.I),x∈[]->False)/\a9 (V.asBs (V.l k [])) λbs=>aE (List.any bs id) False (Q (V.t2 (V.t2 (V.i I.1.1) (V.i I.1.2)) (V.t2 (V.i I.2.1) (V.i I.2.2))))) (Q (V.t2 (V.t2 (V.i I.1.1) (V.i I.1.2)) (V.t2 (V.i I.2.1) (V.i I.2.2))))) (by kernel_rfl) ?_⟩
 exact cw (λa=>⟨by decide,.B,λa=>false,(λx h=>nomatch h),sw rfl (wc (λa=>hq) (λe=>by cases e))⟩) (λa=>hq)
def wI:aM:=λvs Q=>a3 (λv0 v1 v2=>c5 v0 λc0 c1=>nE v1 λI=>Bp v2 λx=>True/\∃(c:Int) (y:Int×Int) (B:Int),((cM c0 c1 c y/\b7 x/\y≠x)/\(Sm 2000 x.1/\Sm 2000 x.2/\y.2*x.2<2^40)/\I=iv B (0, -B)/\dk y.1 y.2 y.1 y.2 B (0, -B)/\a8 y.1 y.2 B (0, -B)/\Sm 104 B/\0<B)/\Q (K.toV .W (lD y x B 151 (0, -B)))) vs
noncomputable abbrev x5(x:Iv):V:=V.t2 (V.t2 (V.i x.1.1) (V.i x.1.2)) (V.t2 (V.i x.2.1) (V.i x.2.2))
def H0(c0 c1:Int)(x:Int×Int)(I:Iv)(Q:V->Prop)(N:Iv->Prop):Prop:=aE (!(I.1.1==I.2.1&&I.1.2==I.2.2)) (1<=1000000/\∃(k:K) (F:(Int×Int)->K.D k),(∀z:Int×Int,z∈[x]->True/\∃(c:Nat) (m n:Int),(I=(dy c m,dy c n)/\Dk c m/\Dk c n/\Sm 2000 z.1/\Sm 2000 z.2)/\K.of k (V.b (decide (z.2*m<=z.1*2^c)&&decide (z.1*2^c<=z.2*n)))=some (F z)/\([(al "interval",Sl.val (x5 I))]:SL)=[(al "interval",Sl.val (x5 I))])/\
 a9 (V.asBs (V.l k [F x])) λbs=>aE (List.any bs id) (True/\∃(k:Nat) (m n:Int),(I=(dy k m,dy k n)/\(Dk k m/\Dk k n/\Dk (k+1) (m+n))/\Sm 300 c0/\Sm 300 c1)/\nf (λa b=>F2 c0 c1 a b) k m n N) (Q (x5 I))) (Q (x5 I))
section
variable {c0 c1 c B:Int} {y x:Int×Int} {n:Nat} {J:Nat×Int} {res:Iv} {N:Iv->Prop}
theorem NZ(g:cM c0 c1 c y)(be:0<B)(ok:dk y.1 y.2 y.1 y.2 B J)(i:a8 y.1 y.2 B J)(hk:J.1<150)(hs:J.1+(n+1)=151)(m:x.2*J.2<=x.1*2^J.1/\x.1*2^J.1<=x.2*(J.2+2*B))(hr:lD y x B (n+1) J=res)(j: ∀l,td y x B res n l->N l):nf (λa b=>F2 c0 c1 a b) J.1 J.2 (J.2+2*B) N:=by
 have hr:(if _ then _ else _)=res:=hr
 rw[if_pos m]at hr
 have k:J.1+1+n=151:=by(first |lia|omega)
 have h1:=Ce (B:=B) J
 have h2:=Aj (B:=B) J
 unfold nf
 simp only[g.sgn,g.sgn]
 rw[show J.2+(J.2+2*B)=2*J.2+2*B by(first |lia|omega)]at hr h1 h2 ⊢
 obtain⟨p,b2⟩:=JN (c:=c) (w:=y.2*(2*J.2+2*B)-y.1*2^(J.1+1)) g.ne i.1
 simp only[p]
 refine cw (λe=>?_) (λe=>?_)
 ·rw[if_pos (of_decide_eq_true e)]at hr
  exact j _ (.fin _ rfl hr)
 ·have f:=of_decide_eq_false e
  rw[if_neg f]at hr
  obtain⟨o,k2⟩:=wR ok hk (bZ be) f f
  have hi:=(m5 (I:=J) g.nx.pos be f).mp i
  simp only[b2 f]
  refine cw (λe=>?_) (λe=>?_)
  ·have d:=of_decide_eq_true e
   rw[if_pos d]at hr
   rw[← h2]
   exact j _ (.go _ rfl k2 (hi.elim (λh=>absurd d (fX.mpr (bZ h.1.2))) (·.2)) k hr)
  ·have d:=of_decide_eq_false e
   rw[if_neg d]at hr
   rw[← h1]
   exact j _ (.go _ rfl o (hi.elim (·.1) (λh=>absurd h.2.1 d)) k hr)
theorem Nw{I:Iv}{Q:V->Prop}(b:cM c0 c1 c y)(hx:b7 x)(j:y≠x)(s1:Sm 2000 x.1)(s2:Sm 2000 x.2)(hq:y.2*x.2<2^40)(hB:Sm 104 B)(be:0<B)
  (k: ∀m d,m<n->td y x B res m d->N d) (a:Q (K.toV .W res)) (hi:td y x B res n I):H0 c0 c1 x I Q N:=by
 rcases hi with⟨J,e,ok,i,hs,hr⟩|⟨z,e,hr⟩
 rotate_left
 ·rw[← hr]at a
  rw[e]at a ⊢
  refine cw (λe=>?_) (λg=>a)
  simp at e
 ·rw[e]
  have d0:=ok.d0 hB (bZ be)
  have d1:=ok.d1 hB (bZ be)
  refine cw (λg=>⟨by decide,.B,λx=>decide (x.2*J.2<=x.1*2^J.1)&&decide (x.1*2^J.1<=x.2*(J.2+2*B)),(λz hz=>?_),sw rfl (wc (λe=>?_) (λe=>?_))⟩) (λe=>?_)
  ·rw[bC.mp hz]
   exact⟨trivial,J.1,J.2,J.2+2*B,⟨rfl,d0,d1,s1,s2⟩,rfl,rfl⟩
  ·have f:¬ (x.2*J.2<=x.1*2^J.1/\x.1*2^J.1<=x.2*(J.2+2*B)):=by simpa using e
   have l:iv B J=res:=by
    rw[← hr]
    induction n with
    |zero=>rfl
    |succ n=>show _=(if _ then _ else _);rw[if_neg f]
   rw[← l]at a
   exact a
  ·have f:x.2*J.2<=x.1*2^J.1/\x.1*2^J.1<=x.2*(J.2+2*B):=by simpa using e
   have hk:J.1<150:=Bc b.nx.pos hx.pos hq hB (λz=>j (b.nx.uniq hx z)) i ⟨by(first |lia|omega),by(first |lia|omega)⟩
   induction n with
   |zero=>exact absurd hs (tL (dr hk (by decide)))
   |succ n=>exact⟨trivial,J.1,J.2,J.2+2*B,⟨rfl,⟨d0,d1,ok.dm hB (bZ be)⟩,b.s0.mono (by decide),b.s1.mono (by decide)⟩,NZ b be ok i hk hs f hr λd h=>k n d (lU n) h⟩
  ·rw[Bool.not_eq_false',cO,beq_iff_eq,beq_iff_eq]at e
   have :=Az (zY e.1 e.2)
   lia
end
theorem RA{c0 c1 c B:Int}{y x:Int×Int}{Q:V->Prop}{R:aC->Sg->Prop}{n:Nat}{I res:Iv}(e:cM c0 c1 c y)(hx:b7 x)(b:y≠x)(s1:Sm 2000 x.1)(s2:Sm 2000 x.2)(hq:y.2*x.2<2^40)(hB:Sm 104 B)(be:0<B)
  (hn: ∀m a,m<n->td y x B res m a->R .next (xU c0 c1 x a)) (d:Q (K.toV .W res)) (hi:td y x B res n I):lu (cy [("is_inside",pE),("halved",rZ)]) 20 (au 66).scope.names [] 4 (lp (au 66).body 0) (xU c0 c1 x I) (λah=>sg 66 [("is_inside",pE),("halved",rZ)] [] ah ((au 66).body.drop 1) (aB Q)) R:=
 aX (B:=H0 c0 c1 x I Q λJ=>R .next (xU c0 c1 x J)) (by kernel_rfl) (Nw e hx b s1 s2 hq hB be hn d hi)
theorem OH(B:aP G){D:Nat}(hs:aG G D [("is_inside",pE),("halved",rZ)]):ao G (D+1) "kept_off" wI:=eD B (i:=66) (by kernel_rfl) hs λvs Q h=>by
 apply mY h;intro v0 v1 v2 h0
 apply dn h0;intro c0 c1 h1
 apply qD h1;intro I h2
 apply QL h2;intro x j
 refine aj λl=>?_
 obtain⟨_,c,y,C,⟨⟨f,hx,a⟩,⟨s1,s2,hq⟩,e,ok,i,hB,be⟩,b⟩:=j
 refine l ?_
 exact⟨rfl,λd Γ hd p o=>WS.whP (i:=66) (mt:=[]) (k:=0) p hd o (by kernel_rfl) (by kernel_rfl) (xU c0 c1 x) (td y x C (lD y x C 151 (0, -C))) 151 I ⟨rfl,rfl⟩ (.go _ e ok i rfl rfl) λn J g=>RA f hx a s1 s2 hq hB be (λm x' h i=>km h i) b g⟩
end
section
variable {G:aK} {d:Nat} {Γ:Fm} {S:St}
noncomputable abbrev mv:cp:=[("rcompare",qm)]
theorem WS.foZ{D:Nat}{sp:cp}{i:Nat}{mt:List ag}{σ σ2:Sg}{l:List aW}{k:Nat}{Q:aC->Sg->Prop}(a:bU G (cy sp) D)(hd:D<=d)(b:Γ.env.scope=(au i).scope)(hk:l.drop k=lp l k::l.drop (k+1))(hw:r8 (lp l k)=true)
  {Qi:(k:K)->List k.D->Sg->Prop} (h:sg i sp mt σ (l.take k) λo ah=>o= .next/\∀S,aN ah S->aN σ2 S) (hi:jN (lw (cy sp) 20) (au i).scope.names σ2 (my (lp l k)) (pd (lp l k)) Qi) (hq: ∀k' xs ah,Qi k' xs ah->uL G d Γ (au i).scope.names (lp l k) (l.drop (k+1)) Q k' xs ah):WS G d Γ σ l Q:=by
 have hn:Γ.env.scope.names=(au i).scope.names:=by rw[b]
 refine WS.at_ hk ((bW a hd hn h).mono λo ah q=>?_)
 obtain⟨rfl,q⟩:=q
 exact WS.weak q (WS.forrG a hd hn hw hi hq)
theorem IY{a c:Int}:decide (b2 (decide (a-c>0))-b2 (decide (a-c<0))<0)=decide (a<c):=by
 rcases gU a c with h|h|h
 ·simp only[decide_eq_false (show ¬ a-c>0 by trivial),decide_eq_true (show a-c<0 by trivial),decide_eq_true (show a<c by trivial)];rfl
 ·simp only[decide_eq_false (show ¬ a-c>0 by trivial),decide_eq_false (show ¬ a-c<0 by trivial),decide_eq_false (show ¬ a<c by trivial)];rfl
 ·simp only[decide_eq_true (show a-c>0 by trivial),decide_eq_false (show ¬ a-c<0 by trivial),decide_eq_false (show ¬ a<c by trivial)];rfl
theorem JX{α:Type}{F l:List α}{a:α}(n:Nat)(h:F.Perm l):(F.take n++a::F.drop n).Perm (l++[a]):=by
 refine(e8.trans ?_).trans (Xv a l).symm
 rw[iJ]
 exact h.cons a
theorem Ha{α:Type}{F:List α}{n:Nat}{x:α}(h:F[n]? =some x):cg F (n:Int)=some x:=by rw[sH (by trivial)];simpa using h
def dK(a b:Int×Int):Prop:=a.1*b.2<=b.1*a.2
theorem dK.trans{a b c:Int×Int}(ha:0<a.2)(hb:0<b.2)(hc:0<c.2)(h1:dK a b)(h2:dK b c):dK a c:=by
 unfold dK at *
 have e1:=fI h1 (show 0<=c.2 by trivial)
 have e2:=fI h2 (show 0<=a.2 by trivial)
 refine FQ (a:=b.2) ?_ hb
 grind
theorem Js{α:Type}{key:α->Int×Int}{F:List α}{a:α}{n:Nat}(hF:F.Pairwise λx y=>dK (key x) (key y))(hp: ∀x∈F,0< (key x).2)(ha:0< (key a).2)(h1: ∀x∈F.take n,dK (key x) (key a))(h2: ∀x,F[n]? =some x->dK (key a) (key x)):(F.take n++a::F.drop n).Pairwise λx y=>dK (key x) (key y):=by
 have c:=hF
 rw[← iJ n F]at c
 obtain⟨f1,f2,d⟩:=M3.mp c
 have h4: ∀y∈F.drop n,dK (key a) (key y):=λy b=>by
  cases e:F.drop n with
  |nil=>rw[e]at b;cases b
  |cons z l=>
   have hz:F[n]? =some z:=by rw[← List.head?_drop,e];rfl
   simp only[e]at b f2
   rcases bz.mp b with rfl|b
   ·exact h2 _ hz
   ·have hm: ∀w∈z::l,w∈F:=λw hw=>Mq (by rw[e];exact hw)
    exact(h2 z hz).trans ha (hp z (hm z List.mem_cons_self)) (hp y (hm y (Mc _ b))) ((FR.mp f2).1 y b)
 refine M3.mpr ⟨f1,FR.mpr ⟨h4,f2⟩,λx hx y b=>?_⟩
 rcases bz.mp b with rfl|b
 ·exact h1 x hx
 ·exact d x hx y b
noncomputable def K.lstW(k:K):List k.D->Option (List K.W.D):=match k with
 | .W=>some
 |_=>λz_=>none
def Jq(v:V)(Q:List K.W.D->Prop):Prop:=match v with
 | .l c xs=>a9 (K.lstW c xs) Q
 |_=>False
theorem RG{v:V}{Q:List K.W.D->Prop}(h:Jq v Q): ∃x,v= .l .W x/\Q x:=by
 induction v with
 |l c xs=>
  obtain⟨y,e,q⟩:=dS (show a9 (K.lstW c xs) Q from h)
  cases c<;>cases e
  exact⟨_,rfl,q⟩
 |_=>exact h.elim
def uP:aM:=λvs Q=>a1 (λv0=>Jq v0 λps=>(ps.length<=1000/\∀x∈ps,Sm 2000 x.2.1/\Sm 2000 x.2.2/\0<x.2.2)/\∀ys:List K.W.D,ys.Perm ps->(ys.Pairwise λa b=>dK a.2 b.2)->Q (.l .W ys)) vs
noncomputable abbrev il(ps:List K.W.D)(x:List K.W.D×Sl×Sl):Sg:=⟨[("pieces",.val (.l .W ps)),("found",.own .W x.1),("piece",x.2.1),("at",x.2.2)],[]⟩
inductive GK(ps:List K.W.D)(j:Nat)(x:List K.W.D×Sl×Sl):Prop
 |mk (h1:x.1.Perm (ps.take j)) (h2:x.1.Pairwise λa b=>dK a.2 b.2)
inductive Bo(F:List K.W.D)(a:K.W.D)(k:Nat)(n:Nat):Prop
 |mk (h1:n+k=F.length) (h2: ∀x∈F.take n,dK x.2 a.2)
theorem Sx {ps F : List K.W.D} {a : K.W.D} {n k : Nat} {R d : aC -> Sg -> Prop} (hF : ∀ x ∈ F, Sm 2000 x.2.1 /\ Sm 2000 x.2.2 /\ 0 < x.2.2) (ha : Sm 2000 a.2.1 /\ Sm 2000 a.2.2 /\ 0 < a.2.2) (hl : F.length < 1000000) (hs : F.Pairwise λa b => dK a.2 b.2) (hi : Bo F a k n)
    (h1 : ∀ k' c, k' < k -> Bo F a k' c -> R .next (il ps (F, .val (K.toV .W a), .val (.i c)))) (h2 : ∀ c, (F.take c ++ a :: F.drop c).Pairwise (λa b => dK a.2 b.2) -> d .next (il ps (F.take c ++ a :: F.drop c, .val (K.toV .W a), .val (.i c)))) :
    lu (cy mv) 20 (au 67).scope.names ["found"] 4 (lp (fz (lp (au 67).body 1)) 1) (il ps (F, .val (K.toV .W a), .val (.i n))) (λah => sg 67 mv ["found"] ah ((fz (lp (au 67).body 1)).drop 2) d) R := aX (B := (aE (decide ((↑n : Int) < (↑(aR F) : Int))) (a9 (cg F (↑n : Int)) λx => (aq (ai (ak x)) (ak (ak a)) = true /\ aq (ai (ak a)) (ak (ak x)) = true) /\ aE (decide (b2 (decide (ai (ak x) * ak (ak a) - ai (ak a) * ak (ak x) > (0 : Int))) - b2 (decide (ai (ak x) * ak (ak a) - ai (ak a) * ak (ak x) < (0 : Int))) < (0 : Int))) (R aC.next (Sg.mk [(al "pieces", Sl.val (V.l K.W ps)), (al "found", Sl.own K.W F), (al "piece", Sl.val (V.t2 (V.t2 (V.i (ai (ai a))) (V.i (ak (ai a)))) (V.t2 (V.i (ai (ak a))) (V.i (ak (ak a)))))), (al "at", Sl.val (V.i ((↑n : Int) + (1 : Int))))] [])) (((0 : Int) <= (↑n : Int) /\ (↑n : Int) <= (↑(aR F) : Int) /\ aR F < (1000000 : Nat)) /\ d aC.next (Sg.mk [(al "pieces", Sl.val (V.l K.W ps)), (al "found", Sl.own K.W (wu (bY (↑n : Int)) F ++ ((ai (ai a), ak (ai a)), ai (ak a), ak (ak a)) :: wn (bY (↑n : Int)) F)), (al "piece", Sl.val (V.t2 (V.t2 (V.i (ai (ai a))) (V.i (ak (ai a)))) (V.t2 (V.i (ai (ak a))) (V.i (ak (ak a)))))), (al "at", Sl.val (V.i (↑n : Int)))] []))) (((0 : Int) <= (↑n : Int) /\ (↑n : Int) <= (↑(aR F) : Int) /\ aR F < (1000000 : Nat)) /\ d aC.next (Sg.mk [(al "pieces", Sl.val (V.l K.W ps)), (al "found", Sl.own K.W (wu (bY (↑n : Int)) F ++ ((ai (ai a), ak (ai a)), ai (ak a), ak (ak a)) :: wn (bY (↑n : Int)) F)), (al "piece", Sl.val (V.t2 (V.t2 (V.i (ai (ai a))) (V.i (ak (ai a)))) (V.t2 (V.i (ai (ak a))) (V.i (ak (ak a)))))), (al "at", Sl.val (V.i (↑n : Int)))] [])))) (by kernel_rfl) (by
  refine aj λf => ?_
  obtain ⟨i1, i2⟩ := hi
  refine f ?_
  have fin : (∀ x, F[n]? = some x -> dK a.2 x.2) -> ((0 : Int) <= n /\ (n : Int) <= (F.length : Int) /\ F.length < 1000000) /\ d .next (il ps (F.take n ++ a :: F.drop n, .val (K.toV .W a), .val (.i n))) := λhx =>
    ⟨⟨jz n, dH.mpr (i1 ▸ ij n k), hl⟩, h2 n (Js (key := λx => x.2) hs (λx hx => (hF x hx).2.2) ha.2.2 i2 hx)⟩
  refine cw (λe => ?_) (λe => ?_)
  · have hn : n < F.length := mX.mp (of_decide_eq_true e)
    have hx := kT hn
    refine aj λf => ?_
    obtain ⟨s1, s2, s3⟩ := hF _ (Ff hn)
    refine f ?_
    refine sw (Ha hx) ⟨⟨Sm.ok s1 ha.2.1 (by decide) (by decide), Sm.ok ha.1 s2 (by decide) (by decide)⟩, ?_⟩
    rw [IY]
    refine cw (λe => ?_) (λe => ?_)
    · obtain ⟨k, rfl⟩ := FE (λz : k = 0 => jY n (by rw [z, Mp] at i1; exact i1 ▸ hn))
      refine h1 k (n + 1) (lU k) ⟨(rm n 1 k).trans i1, λx g => ?_⟩
      rw [gS, hx] at g
      rcases iI.mp g with h | h
      · exact i2 x h
      · obtain rfl := bC.mp h
        exact bZ (of_decide_eq_true e)
    · exact fin λx h => by
        rw [hx] at h; cases h
        exact fX.mp (of_decide_eq_false e)
  · exact fin λx h => by
      exact absurd (mX.mpr (gv.mp h).1) (of_decide_eq_false e))
theorem QV(B:aP G){D:Nat}(hs:aG G D mv):ao G (D+1) "sorted_intervals" uP:=eD B (i:=67) (by kernel_rfl) hs λvs Q h=>by
 apply cu h;intro v0 h0
 refine aj λm=>?_
 obtain⟨ps,rfl,⟨hl,hp⟩,g⟩:=RG h0
 refine m ?_
 refine⟨rfl,λd Γ hd c e=>WS.foZ (i:=67) (mt:=["found"]) (k:=1) (σ2:=il ps ([],.any,.any)) (Qi:=iN .W ps (il ps ([],.any,.any))) c hd e (by kernel_rfl) (by kernel_rfl) (aX (B:=(aC.next= .next/\∀S,aN ⟨[("pieces",.val (.l .W ps)),("found",.own .I []),("piece",.any),("at",.any)],[]⟩ S->aN (il ps ([],.any,.any)) S)) (by kernel_rfl) ⟨rfl,λS f=>f.nilk (pre:=[_]) (post:=[_,_])⟩) (aX (B:=iN .W ps (il ps ([],.any,.any)) .W ps (il ps ([],.any,.any))) (by kernel_rfl) .mk) λk' xs ah h=>?_⟩
 cases h
 refine⟨_,il ps,GK ps,⟨([],.any,.any),⟨.nil,.nil⟩,rfl⟩,λj a x ha hx=>⟨λσ=>σ=il ps (x.1,.val (K.toV .W a),x.2.2),rfl,?_⟩,λx hx=>?_⟩
 ·rintro σ2 rfl
  obtain⟨F,s1,s2⟩:=x
  obtain⟨i1,i2⟩:=hx
  dsimp only at i1 i2 ⊢
  have hF: ∀x∈F,Sm 2000 x.2.1/\Sm 2000 x.2.2/\0<x.2.2:=λx hx=>hp x (Ft (i1.mem_iff.mp hx))
  have hFl:F.length<=1000:=by have :=i1.length_eq;simp only[kX]at this;lia
  have am:a∈ps:=kh ha
  refine WS.whQ (i:=67) (mt:=["found"]) (k:=1) c hd e (by kernel_rfl) (by kernel_rfl) (aX (B:=lm 67 mv ["found"] (lp (fz (lp (au 67).body 1)) 1) ((fz (lp (au 67).body 1)).drop 2) (gZ (il ps) (GK ps) (aB Q) j) (il ps (F,.val (K.toV .W a),.val (.i 0)))) (by kernel_rfl) ⟨Nat,λn=>il ps (F,.val (K.toV .W a),.val (.i n)),Bo F a,F.length,0,⟨rk _,λx h=>by cases h⟩,λS h=>h,λk n hn=>Sx hF (hp a am) (by lia) i2 hn (λk' b h i=>km (st:=λn:Nat=>il ps (F,.val (K.toV .W a),.val (.i n))) h i) λb h=>⟨(F.take b++a::F.drop b,.val (K.toV .W a),.val (.i b)),⟨?_,h⟩,rfl⟩⟩)
  simp only[gS,ha]
  exact JX b i1
 ·obtain⟨F,s1,s2⟩:=x
  obtain⟨i1,i2⟩:=hx
  rw[e9 (cR _)]at i1
  exact bW c hd (by rw[e]) (aX (A:=sg 67 mv ["found"] (il ps (F,s1,s2)) ((au 67).body.drop 2) (aB Q)) (B:=Q (.l .W F)) (by kernel_rfl) (g F i1 i2))
noncomputable def K.lstM(k:K):List k.D->Option (List K.M.D):=match k with
 | .M=>some
 |_=>λz_=>none
def Gw(v:V)(Q:List K.M.D->Prop):Prop:=match v with
 | .l c xs=>a9 (K.lstM c xs) Q
 |_=>False
theorem Nc{v:V}{Q:List K.M.D->Prop}(h:Gw v Q): ∃x,v= .l .M x/\Q x:=by
 induction v with
 |l c xs=>
  obtain⟨y,e,q⟩:=dS (show a9 (K.lstM c xs) Q from h)
  cases c<;>cases e
  exact⟨_,rfl,q⟩
 |_=>exact h.elim
def Dn:aM:=λvs Q=>a1 (λv0=>Gw v0 λps=>(ps.length<=1000/\∀x∈ps,Sm 2000 x.1.1/\Sm 2000 x.1.2/\0<x.1.2)/\∀ys:List K.M.D,ys.Perm ps->(ys.Pairwise λa b=>dK a.1 b.1)->Q (.l .M ys)) vs
noncomputable abbrev ir(ps:List K.M.D)(x:List K.M.D×Sl×Sl):Sg:=⟨[("pairs",.val (.l .M ps)),("found",.own .M x.1),("pair",x.2.1),("at",x.2.2)],[]⟩
inductive Gn(ps:List K.M.D)(j:Nat)(x:List K.M.D×Sl×Sl):Prop
 |mk (h1:x.1.Perm (ps.take j)) (h2:x.1.Pairwise λa b=>dK a.1 b.1)
inductive Cc(F:List K.M.D)(a:K.M.D)(k:Nat)(n:Nat):Prop
 |mk (h1:n+k=F.length) (h2: ∀x∈F.take n,dK x.1 a.1)
theorem Wh {ps F : List K.M.D} {a : K.M.D} {n k : Nat} {R d : aC -> Sg -> Prop} (hF : ∀ x ∈ F, Sm 2000 x.1.1 /\ Sm 2000 x.1.2 /\ 0 < x.1.2) (ha : Sm 2000 a.1.1 /\ Sm 2000 a.1.2 /\ 0 < a.1.2) (hl : F.length < 1000000) (hs : F.Pairwise λa b => dK a.1 b.1) (hi : Cc F a k n)
    (h1 : ∀ k' c, k' < k -> Cc F a k' c -> R .next (ir ps (F, .val (K.toV .M a), .val (.i c)))) (h2 : ∀ c, (F.take c ++ a :: F.drop c).Pairwise (λa b => dK a.1 b.1) -> d .next (ir ps (F.take c ++ a :: F.drop c, .val (K.toV .M a), .val (.i c)))) :
    lu (cy mv) 20 (au 73).scope.names ["found"] 4 (lp (fz (lp (au 73).body 1)) 1) (ir ps (F, .val (K.toV .M a), .val (.i n))) (λah => sg 73 mv ["found"] ah ((fz (lp (au 73).body 1)).drop 2) d) R := aX (B := (aE (decide ((↑n : Int) < (↑(aR F) : Int))) (a9 (cg F (↑n : Int)) λx => (aq (ai (ai x)) (ak (ai a)) = true /\ aq (ai (ai a)) (ak (ai x)) = true) /\ aE (decide (b2 (decide (ai (ai x) * ak (ai a) - ai (ai a) * ak (ai x) > (0 : Int))) - b2 (decide (ai (ai x) * ak (ai a) - ai (ai a) * ak (ai x) < (0 : Int))) < (0 : Int))) (R aC.next (Sg.mk [(al "pairs", Sl.val (V.l K.M ps)), (al "found", Sl.own K.M F), (al "pair", Sl.val (V.t2 (V.t2 (V.i (ai (ai a))) (V.i (ak (ai a)))) (V.i (ak a)))), (al "at", Sl.val (V.i ((↑n : Int) + (1 : Int))))] [])) (((0 : Int) <= (↑n : Int) /\ (↑n : Int) <= (↑(aR F) : Int) /\ aR F < (1000000 : Nat)) /\ d aC.next (Sg.mk [(al "pairs", Sl.val (V.l K.M ps)), (al "found", Sl.own K.M (wu (bY (↑n : Int)) F ++ ((ai (ai a), ak (ai a)), ak a) :: wn (bY (↑n : Int)) F)), (al "pair", Sl.val (V.t2 (V.t2 (V.i (ai (ai a))) (V.i (ak (ai a)))) (V.i (ak a)))), (al "at", Sl.val (V.i (↑n : Int)))] []))) (((0 : Int) <= (↑n : Int) /\ (↑n : Int) <= (↑(aR F) : Int) /\ aR F < (1000000 : Nat)) /\ d aC.next (Sg.mk [(al "pairs", Sl.val (V.l K.M ps)), (al "found", Sl.own K.M (wu (bY (↑n : Int)) F ++ ((ai (ai a), ak (ai a)), ak a) :: wn (bY (↑n : Int)) F)), (al "pair", Sl.val (V.t2 (V.t2 (V.i (ai (ai a))) (V.i (ak (ai a)))) (V.i (ak a)))), (al "at", Sl.val (V.i (↑n : Int)))] [])))) (by kernel_rfl) (by
  refine aj λf => ?_
  obtain ⟨i1, i2⟩ := hi
  refine f ?_
  have fin : (∀ x, F[n]? = some x -> dK a.1 x.1) -> ((0 : Int) <= n /\ (n : Int) <= (F.length : Int) /\ F.length < 1000000) /\ d .next (ir ps (F.take n ++ a :: F.drop n, .val (K.toV .M a), .val (.i n))) := λhx =>
    ⟨⟨jz n, dH.mpr (i1 ▸ ij n k), hl⟩, h2 n (Js (key := λx => x.1) hs (λx hx => (hF x hx).2.2) ha.2.2 i2 hx)⟩
  refine cw (λe => ?_) (λe => ?_)
  · have hn : n < F.length := mX.mp (of_decide_eq_true e)
    have hx := kT hn
    refine aj λf => ?_
    obtain ⟨s1, s2, s3⟩ := hF _ (Ff hn)
    refine f ?_
    refine sw (Ha hx) ⟨⟨Sm.ok s1 ha.2.1 (by decide) (by decide), Sm.ok ha.1 s2 (by decide) (by decide)⟩, ?_⟩
    rw [IY]
    refine cw (λe => ?_) (λe => ?_)
    · obtain ⟨k, rfl⟩ := FE (λz : k = 0 => jY n (by rw [z, Mp] at i1; exact i1 ▸ hn))
      refine h1 k (n + 1) (lU k) ⟨(rm n 1 k).trans i1, λx g => ?_⟩
      rw [gS, hx] at g
      rcases iI.mp g with h | h
      · exact i2 x h
      · obtain rfl := bC.mp h
        exact bZ (of_decide_eq_true e)
    · exact fin λx h => by
        rw [hx] at h; cases h
        exact fX.mp (of_decide_eq_false e)
  · exact fin λx h => by
      exact absurd (mX.mpr (gv.mp h).1) (of_decide_eq_false e))
theorem Nf(B:aP G){D:Nat}(hs:aG G D mv):ao G (D+1) "sorted_roots" Dn:=eD B (i:=73) (by kernel_rfl) hs λvs Q h=>by
 apply cu h;intro v0 h0
 refine aj λm=>?_
 obtain⟨ps,rfl,⟨hl,hp⟩,g⟩:=Nc h0
 refine m ?_
 refine⟨rfl,λd Γ hd c e=>WS.foZ (i:=73) (mt:=["found"]) (k:=1) (σ2:=ir ps ([],.any,.any)) (Qi:=iN .M ps (ir ps ([],.any,.any))) c hd e (by kernel_rfl) (by kernel_rfl) (aX (B:=(aC.next= .next/\∀S,aN ⟨[("pairs",.val (.l .M ps)),("found",.own .I []),("pair",.any),("at",.any)],[]⟩ S->aN (ir ps ([],.any,.any)) S)) (by kernel_rfl) ⟨rfl,λS f=>f.nilk (pre:=[_]) (post:=[_,_])⟩) (aX (B:=iN .M ps (ir ps ([],.any,.any)) .M ps (ir ps ([],.any,.any))) (by kernel_rfl) .mk) λk' xs ah h=>?_⟩
 cases h
 refine⟨_,ir ps,Gn ps,⟨([],.any,.any),⟨.nil,.nil⟩,rfl⟩,λj a x ha hx=>⟨λσ=>σ=ir ps (x.1,.val (K.toV .M a),x.2.2),rfl,?_⟩,λx hx=>?_⟩
 ·rintro σ2 rfl
  obtain⟨F,s1,s2⟩:=x
  obtain⟨i1,i2⟩:=hx
  dsimp only at i1 i2 ⊢
  have hF: ∀x∈F,Sm 2000 x.1.1/\Sm 2000 x.1.2/\0<x.1.2:=λx hx=>hp x (Ft (i1.mem_iff.mp hx))
  have hFl:F.length<=1000:=by have :=i1.length_eq;simp only[kX]at this;lia
  have am:a∈ps:=kh ha
  refine WS.whQ (i:=73) (mt:=["found"]) (k:=1) c hd e (by kernel_rfl) (by kernel_rfl) (aX (B:=lm 73 mv ["found"] (lp (fz (lp (au 73).body 1)) 1) ((fz (lp (au 73).body 1)).drop 2) (gZ (ir ps) (Gn ps) (aB Q) j) (ir ps (F,.val (K.toV .M a),.val (.i 0)))) (by kernel_rfl) ⟨Nat,λn=>ir ps (F,.val (K.toV .M a),.val (.i n)),Cc F a,F.length,0,⟨rk _,λx h=>by cases h⟩,λS h=>h,λk n hn=>Wh hF (hp a am) (by lia) i2 hn (λk' b h i=>km (st:=λn:Nat=>ir ps (F,.val (K.toV .M a),.val (.i n))) h i) λb h=>⟨(F.take b++a::F.drop b,.val (K.toV .M a),.val (.i b)),⟨?_,h⟩,rfl⟩⟩)
  simp only[gS,ha]
  exact JX b i1
 ·obtain⟨F,s1,s2⟩:=x
  obtain⟨i1,i2⟩:=hx
  rw[e9 (cR _)]at i1
  exact bW c hd (by rw[e]) (aX (A:=sg 73 mv ["found"] (ir ps (F,s1,s2)) ((au 73).body.drop 2) (aB Q)) (B:=Q (.l .M F)) (by kernel_rfl) (g F i1 i2))
end
section
variable {G:aK} {d:Nat} {Γ:Fm} {S:St}
inductive cJ(z o:Int×Int)(B:Int)(J:Iv):Prop
 |go (I:Nat×Int) (e:J=iv B I) (ok:dk z.1 z.2 o.1 o.2 B I) (i:a8 z.1 z.2 B I) (n:o=z\/¬ a8 o.1 o.2 B I)
 |fin (k:Nat) (m:Int) (hD:Dk k m) (ez:dy k m=z) (e:J=(z,z))
theorem AS{y x:Int×Int}{B:Int}(a:b7 y)(hx:b7 x)(d:y≠x)(hq:y.2*x.2<2^40)(hB:Sm 104 B)(be:0<B): ∀(n:Nat) (I:Nat×Int),dk y.1 y.2 y.1 y.2 B I->a8 y.1 y.2 B I->I.1+n=151->cJ y x B (lD y x B n I)
 |0,I,ok,i,hn=>by have :=ok.k;trivial
 |n+1,I,ok,i,hn=>by
  unfold lD
  split
  ·next c=>
   have hk:I.1<150:=Bc a.pos hx.pos hq hB (λz=>d (a.uniq hx z)) i ⟨by trivial,by trivial⟩
   split
   ·next b=>
    have :dy (I.1+1) (I.2+(I.2+2*B))=y:=jP (uZ _) a (by
     rw[show I.2+(I.2+2*B)=2*I.2+2*B by trivial,bT];trivial)
    exact .fin _ _ (ok.dm hB (by trivial)) this (by rw[this])
   ·next b=>
    refine aj λg=>?_
    obtain⟨f,k2⟩:=wR ok hk (by trivial) b b
    refine g ?_
    have hi:=(m5 (I:=I) a.pos be b).mp i
    split
    ·next e=>
     refine AS a hx d hq hB be n _ k2 ?_ (by show I.1+1+n=151;trivial)
     rcases hi with⟨h,_⟩|⟨_,h⟩
     ·have :=h.2;dsimp only at this;trivial
     ·exact h
    ·next e=>
     refine AS a hx d hq hB be n _ f ?_ (by show I.1+1+n=151;trivial)
     rcases hi with⟨h,_⟩|⟨_,h⟩
     ·exact h
     ·exact absurd h.1 e
  ·next c=>
   refine .go I rfl ⟨ok.k,ok.lo,ok.hi,ok.u,?_,?_⟩ i (.inr λh=>c ⟨?_,?_⟩)
   ·exact λz=>c ⟨by trivial,by have :=da hx.pos be;simp only[show x.2*(I.2+2*B)=x.2*I.2+2*(x.2*B) by grind];trivial⟩
   ·exact λz=>c ⟨by have :=da hx.pos be;rw[show x.2*(I.2+2*B)=x.2*I.2+2*(x.2*B) by grind]at z;trivial,by trivial⟩
   ·have :=h.1;trivial
   ·have :=h.2;trivial
def Ub(p:List Int)(Q:V->Prop):Prop:=match p with
 | [c0,c1]=>xj [.l .I [c0,c1]] Q
 | [a0,a1,a2]=>wZ [.l .I [a0,a1,a2]] Q
 |_=>False
def uk:aM:=λvs Q=>a1 (λv0=>bq v0 λp=>Ub p Q) vs
theorem R4{D:Nat}(h2:ao G D "split_roots" xj)(h3:ao G D "split_roots" wZ):ao G D "split_roots" uk:=by
 refine⟨h3.1,λvs Q d h hd=>?_⟩
 apply cu h;intro v h0
 apply bL h0;intro p hq
 try clear h0
 try clear h
 revert hq
 revert p
 refine l4 ?_ ?_ ?_ ?_ ?_ ?_
 ·exact λh=>h.elim
 ·exact λa h=>h.elim
 ·intro c0 c1 hq
  exact h2.2 _ Q d hq hd
 ·intro a0 a1 a2 hq
  exact h3.2 _ Q d hq hd
 ·exact λa a a a h=>h.elim
 ·exact λa a a a a a h=>h.elim
def PB(c:K)(xs:List c.D)(a b:Prop):Prop:=match c with
 | .I=>(match xs with
  | []=>a
  |_=>False)
 | .R=>b
 |_=>False
def uj:aM:=λvs Q=>a3 (λv0 v1 v2=>match v2 with
 | .l c xs=>PB c xs (xA [v0,v1,.l .I []] Q) (wI [v0,v1,.l c xs] Q)
 |_=>False) vs
theorem VE{D:Nat}(h0:ao G D "kept_off" xA)(h1:ao G D "kept_off" wI):ao G D "kept_off" uj:=by
 refine⟨h0.1,λvs Q d h hd=>?_⟩
 apply mY h;intro v0 v1 v2 h
 match v2,h with
 | .l .I [],h=>exact h0.2 _ Q d h hd
 | .l .R xs,h=>exact h1.2 _ Q d h hd
theorem K.ofW(J:Iv):K.of .W (V.t2 (V.t2 (V.i J.1.1) (V.i J.1.2)) (V.t2 (V.i J.2.1) (V.i J.2.2)))=some J:=rfl
theorem cv.swap{a0 a1 a2 c:Int}{x y:Int×Int}(h:cv a0 a1 a2 c x y):cv a0 a1 a2 c y x:=⟨h.ne,h.ny,h.nx,by rw[h.e0];grind,by rw[h.e1];grind,by rw[h.e2];grind,h.s0,h.s1,h.s2⟩
theorem cv.sm{a0 a1 a2 c:Int}{x y:Int×Int}(h:cv a0 a1 a2 c x y):Sm 100 (c*x.1)/\Sm 100 (c*x.2)/\Sm 100 x.1/\Sm 100 x.2:=by
 have p:=h.ny.pos
 have h1:Sm 100 (c*x.1):=by
  by_cases z:y.1=0
  ·have :=h.s1
   simp only[h.e1,z,fV,iM]at this
   exact de (g:= -y.2) (by trivial) (by simp only[show -y.2*(c*x.1)= -(c*(x.1*y.2)) by grind];exact this)
  ·have :=h.s0
   simp only[h.e0]at this
   exact de (g:=y.1) z (by simp only[show y.1*(c*x.1)=c*(x.1*y.1) by grind];exact this)
 have h2:Sm 100 (c*x.2):=by
  have :=h.s2
  simp only[h.e2]at this
  exact de (g:=y.2) (by trivial) (by simp only[show y.2*(c*x.2)=c*(x.2*y.2) by grind];exact this)
 exact⟨h1,h2,de h.ne h1,de h.ne h2⟩
theorem cv.F{a0 a1 a2 c:Int}{x y:Int×Int}(h:cv a0 a1 a2 c x y)(n d:Int):F3 a0 a1 a2 n d=c*((x.2*n-x.1*d)*(y.2*n-y.1*d)):=by unfold F3;simp only[h.e0,h.e1,h.e2];grind
theorem cv.root{a0 a1 a2 c:Int}{x y z:Int×Int}(h:cv a0 a1 a2 c x y)(a:b7 z)(hz:F3 a0 a1 a2 z.1 z.2=0):z=x\/z=y:=by
 rw[h.F]at hz
 rcases fq.mp ((fq.mp hz).resolve_left h.ne)with e|e
 ·exact .inl (a.uniq h.nx (by rw[bT];lia))
 ·exact .inr (a.uniq h.ny (by rw[bT];omega))
theorem QQ{a0 a1 a2 m:Int}{k:Nat}(h:F3 a0 a1 a2 m (2^k)=0):F3 a0 a1 a2 (dy k m).1 (dy k m).2=0:=by
 refine aj λa=>?_
 obtain⟨g,hg,e1,e2,_⟩:=fu k m
 refine a ?_
 generalize dy k m=y at *
 simp only[e1,e2]at h
 have :F3 a0 a1 a2 (g*y.1) (g*y.2)=g*g*F3 a0 a1 a2 y.1 y.2:=by unfold F3;grind
 simp only[this]at h
 exact(fq.mp h).resolve_left (bH (by trivial) (by trivial))
theorem IL{c0 c1 c B:Int}{x:Int×Int}(h:cM c0 c1 c x)(hB:0<B)(hb: ∀n d:Int,0<d->F2 c0 c1 n d=0->(n.natAbs:Int)<B*d):dk x.1 x.2 x.1 x.2 B (0, -B)/\a8 x.1 x.2 B (0, -B)/\((-B,1),(B,1))=iv B (0, -B):=by
 have h1:=hb x.1 x.2 h.nx.pos (by rw[h.F,bT x.2];simp)
 have e1:x.2*(-B)-x.1*2^0= -(B*x.2)-x.1:=by simp only[fp,k8,bT];lia
 have e2:x.2*(-B+2*B)-x.1*2^0=B*x.2-x.1:=by rw[fp,show -B+2*B=B by lia,bT];lia
 have p1:x.1<B*x.2:=oB tY h1
 have p2: -x.1<B*x.2:=oB (by rw[← jg];exact tY) h1
 have lo:x.2*(-B)-x.1*2^0<0:=by rw[e1];clear e1 e2 h1 p1;trivial
 have hi:0<x.2*(-B+2*B)-x.1*2^0:=by rw[e2];exact wv p1
 have o:nA x.1 x.2 B (0, -B):=⟨Int.ne_of_lt lo,fJ hi⟩
 refine⟨⟨dx _,by show -(B*2^0)<= -B;simp only[fp,dh];exact kU _,by show -B+2*B<=B*2^0;simp only[fp,dh];trivial,o,o⟩,⟨lo,hi⟩,?_⟩
 show _=(dy 0 (-B),dy 0 (-B+2*B))
 simp only[s8,show -B+2*B=B by lia,s8]
theorem cJ.small{z o:Int×Int}{B:Int}{J:Iv}(h:cJ z o B J)(a:b7 z)(s1:Sm 100 z.1)(s2:Sm 100 z.2)(hB:Sm 104 B)(be:0<B):Sm 2000 J.2.1/\Sm 2000 J.2.2/\0<J.2.2:=by
 rcases h with⟨I,e,ok,_,_⟩|⟨_,_,_,_,e⟩
 ·rw[e]
  have d1:=ok.d1 hB (by trivial)
  exact⟨d1.s1,d1.s2,by obtain⟨_,_,_,_,h⟩:=fu I.1 (I.2+2*B);exact h.pos⟩
 ·rw[e];exact⟨s1.mono (by decide),s2.mono (by decide),a.pos⟩
def C6:aM:=λvs Q=>a1 (λv0=>f7 v0 λa0 a1 a2=>True/\∃(c:Int) (x y:Int×Int),(cv a0 a1 a2 c x y/\x.2*y.2<2^40)/\∀(B:Int) (Is:List Iv),(Sm 104 B/\0<B)->Is.length<=1000->(∀J∈Is,cJ x y B J\/cJ y x B J)->(∃J∈Is,cJ x y B J)->(∃J∈Is,cJ y x B J)->Q (.l .W Is)) vs
noncomputable abbrev Ac(x:Iv):V:=V.t2 (V.t2 (V.i x.1.1) (V.i x.1.2)) (V.t2 (V.i x.2.1) (V.i x.2.2))
def CF(Q:V->Prop)(ps:List Iv):Prop:=(ps.length<=1000/\∀x∈ps,Sm 2000 x.2.1/\Sm 2000 x.2.2/\0<x.2.2)/\∀ys:List Iv,ys.Perm ps->ys.Pairwise (λa b=>dK a.2 b.2)->Q (V.l K.W ys)
def wN(left:List Int)(L:List Iv)(Q:V->Prop):Prop:=r7 V.no=true/\0<=1000000/\∃(k:K) (F:Int->K.D k),(∀x:Int,x∈[]->K.of k (V.t2 (V.i x) (V.i x))=some (F x)/\([(al "exact",Sl.val (V.l K.I [])),(al "left",Sl.val (V.l K.I left))]:SL)=[(al "exact",Sl.val (V.l K.I [])),(al "left",Sl.val (V.l K.I left))])/\
 L.length<=1000000/\∃(a:K) (b:Iv->K.D a),(∀x:Iv,x∈L->True/\K.of a (Ac x)=some (b x)/\([(al "exact",Sl.val (V.l K.I [])),(al "left",Sl.val (V.l K.I left))]:SL)=[(al "exact",Sl.val (V.l K.I [])),(al "left",Sl.val (V.l K.I left))])/\
 a9 (u6 k a (L.map b)) λzs=>0+zs.length<=16777216/\a9 (K.lstW k ([]++zs)) (CF Q)
theorem Ke{left:List Int}{L:List Iv}{Q:V->Prop}(hl:L.length<=1000)(sm: ∀J∈L,Sm 2000 J.2.1/\Sm 2000 J.2.2/\0<J.2.2)(b: ∀ys:List Iv,ys.Perm L->Q (V.l K.W ys)):wN left L Q:=by
 refine⟨rfl,by decide,.W,λa=>((0,0),(0,0)),(λJ h=>nomatch h),aZ hl (by decide),.W,λJ=>J,(λJ hJ=>⟨trivial,rfl,rfl⟩),sw (x:=L.map λJ=>J) rfl ?_⟩
 rw[MR]
 exact⟨by rw[rk];exact aZ hl (by decide),sw (x:=L) rfl ⟨⟨hl,sm⟩,λys hp a=>b ys hp⟩⟩
def Ht(z:Int×Int)(c1 c2 B:Int)(Q:V->Prop):Prop:=r7 V.no=true/\1<=1000000/\∃(a:K) (F:(Int×Int)->K.D a),(∀x:Int×Int,x∈[z]->K.of a (Ac (x,x))=some (F x)/\([(al "exact",Sl.val (V.l K.R [z])),(al "left",Sl.val (V.l K.I [c1,c2]))]:SL)=[(al "exact",Sl.val (V.l K.R [z])),(al "left",Sl.val (V.l K.I [c1,c2]))])/\
 1<=1000000/\∃(k2:K) (b:Iv->K.D k2),(∀x:Iv,x∈[((-B,1),(B,1))]->True/\∃(c:Int) (y:Int×Int) (B:Int),((cM c1 c2 c y/\b7 z/\y≠z)/\(Sm 2000 z.1/\Sm 2000 z.2/\y.2*z.2<1099511627776)/\x=iv B (0, -B)/\dk y.1 y.2 y.1 y.2 B (0, -B)/\a8 y.1 y.2 B (0, -B)/\Sm 104 B/\0<B)/\
  K.of k2 (Ac (lD y z B 151 (0, -B)))=some (b x)/\([(al "exact",Sl.val (V.l K.R [z])),(al "left",Sl.val (V.l K.I [c1,c2]))]:SL)=[(al "exact",Sl.val (V.l K.R [z])),(al "left",Sl.val (V.l K.I [c1,c2]))])/\
 a9 (u6 a k2 [b ((-B,1),(B,1))]) λzs=>1+zs.length<=16777216/\a9 (K.lstW a ([F z]++zs)) (CF Q)
theorem WW{z o:Int×Int}{c c1 c2 B:Int}{Q:V->Prop}(f:cM c1 c2 c o)(e:b7 z)(ho:o≠z)(d:Sm 100 z.1)(b:Sm 100 z.2)(hq:o.2*z.2<2^40)(bs:Sm 104 B)(be:0<B)(l1:dk o.1 o.2 o.1 o.2 B (0, -B))(l2:a8 o.1 o.2 B (0, -B))(l3:((-B,1),(B,1))=iv B (0, -B))
  (hF:CF Q [(z,z),lD o z B 151 (0, -B)]):Ht z c1 c2 B Q:=
 ⟨rfl,by decide,.W,λx=>(x,x),(λJ a=>⟨rfl,rfl⟩),by decide,.W,λJ=>lD o z B 151 (0, -B),(λJ a=>⟨trivial,c,o,B,⟨⟨f,e,ho⟩,⟨d.mono (by decide),b.mono (by decide),hq⟩,(bC.mp a).symm▸l3,l1,l2,bs,be⟩,K.ofW _,rfl⟩),sw rfl ⟨mP rfl,sw rfl hF⟩⟩
def JM(a0 a1 a2:Int)(z:Int×Int)(Q:V->Prop):Prop:=r7 V.no=true/\0<10000000/\True/\∃c1 c2:Int,(z.2≠0/\c2≠0/\Sm 300 (-z.1)/\Sm 300 z.2/\Sm 300 c2/\Sm 300 c1)/\(a2=z.2*c2/\a1=z.2*c1+ -z.1*c2/\a0= -z.1*c1)/\(c2≠0/\Sm 100 c1/\Sm 100 c2)/\
 ∀B:Int,2<=B->Sm 104 B->(∀n d:Int,0<d->F2 c1 c2 n d=0->(n.natAbs:Int)<B*d)->Ht z c1 c2 B Q
def sd(x y:Int×Int)(Q:V->Prop):Prop:=∀(B:Int) (ys:List Iv),(Sm 104 B/\0<B)->ys.length<=1000->(∀J∈ys,cJ x y B J\/cJ y x B J)->(∃J∈ys,cJ x y B J)->(∃J∈ys,cJ y x B J)->Q (V.l K.W ys)
theorem sd.swap{x y:Int×Int}{Q:V->Prop}(h:sd x y Q):sd y x Q:=λB ys b l a e1 e2=>h B ys b l (λJ c=>(a J c).symm) e2 e1
theorem KA{a0 a1 a2 c:Int}{z o:Int×Int}{k:Nat}{m:Int}{Q:V->Prop}(ez:dy k m=z)(hD:Dk k m)(d:b7 z)(a:cv a0 a1 a2 c z o)(ho:o≠z)(hq:o.2*z.2<2^40)(q:sd z o Q):JM a0 a1 a2 z Q:=by
 refine aj λr=>?_
 obtain⟨z1,z2,g,f⟩:=a.sm
 obtain⟨i,h,p,n⟩:=a.swap.sm
 refine r ?_
 have l:cM (-(c*o.1)) (c*o.2) c o:=⟨a.ne,a.ny,rfl,rfl,i.neg,h⟩
 have c2:c*o.2≠0:=bH a.ne (fJ a.ny.pos)
 refine⟨rfl,by decide,trivial, -(c*o.1),c*o.2,⟨fJ d.pos,c2,g.neg.mono (by decide),f.mono (by decide),h.mono (by decide),i.neg.mono (by decide)⟩,⟨by rw[a.e2];grind,by rw[a.e1];grind,by rw[a.e0];grind⟩,⟨c2,i.neg,h⟩,λB b2 bs hb=>?_⟩
 have be:0<B:=gy (by decide) b2
 obtain⟨l1,l2,l3⟩:=IL l be hb
 have gd:=AS a.ny d ho hq bs be 151 (0, -B) l1 l2 rfl
 have j:cJ z o B (z,z):=.fin k m hD ez rfl
 refine WW l d ho g f hq bs be l1 l2 l3 ⟨⟨mP rfl,λJ b=>?_⟩,λys hp z_=>q B ys ⟨bs,be⟩ (by rw[hp.length_eq];exact mP rfl) (λJ b=>?_) ⟨_,hp.mem_iff.mpr (.head _),j⟩ ⟨_,hp.mem_iff.mpr (.tail _ (.head _)),gd⟩⟩
 ·rcases bz.mp b with e|b
  ·rw[e];exact j.small d g f bs be
  ·rw[bC.mp b];exact gd.small a.ny p n bs be
 ·rcases bz.mp (hp.mem_iff.mp b)with e|b
  ·rw[e];exact .inl j
  ·rw[bC.mp b];exact .inr gd
theorem Tj{left:List Int}{x y:Int×Int}{B:Int}{Fd:List (Nat×Int)}{Q:V->Prop}(hx:b7 x)(m:b7 y)(l:Sm 100 x.1)(j:Sm 100 x.2)(h:Sm 100 y.1)(f:Sm 100 y.2)(bs:Sm 104 B)(be:0<B)(hl:Fd.length<=1000)(ok: ∀I∈Fd,dk x.1 x.2 y.1 y.2 B I/\qK x.1 x.2 y.1 y.2 B I)
  (c1: ∃I∈Fd,a8 x.1 x.2 B I) (c2: ∃I∈Fd,a8 y.1 y.2 B I) (n:sd x y Q):wN left (Fd.map (iv B)) Q:=by
 have gd: ∀I∈Fd,(a8 x.1 x.2 B I->cJ x y B (iv B I))/\(a8 y.1 y.2 B I->cJ y x B (iv B I)):=λI a=>by
  obtain⟨k,o⟩:=ok I a
  rcases o with⟨i1,i2⟩|⟨i1,i2⟩
  ·exact⟨λi=>.go I rfl k i (.inr i2),λi=>absurd i i2⟩
  ·exact⟨λi=>absurd i i1,λi=>.go I rfl ⟨k.k,k.lo,k.hi,k.v,k.u⟩ i (.inr i1)⟩
 have all: ∀J∈Fd.map (iv B),cJ x y B J\/cJ y x B J:=λJ b=>by
  obtain⟨I,a,e⟩:=bF.mp b
  rw[← e]
  exact(ok I a).2.imp (λi=>(gd I a).1 i.1) (λi=>(gd I a).2 i.2)
 have c:(Fd.map (iv B)).length<=1000:=by rw[bi];exact hl
 obtain⟨I,a,i1⟩:=c1
 obtain⟨p,d,i2⟩:=c2
 exact Ke c (λJ b=>(all J b).elim (λg=>g.small hx l j bs be) (λg=>g.small m h f bs be)) λys hp=>n B ys ⟨bs,be⟩ (by rw[hp.length_eq];exact c) (λJ b=>all J (hp.mem_iff.mp b)) ⟨_,hp.mem_iff.mpr (j6 a),(gd I a).1 i1⟩ ⟨_,hp.mem_iff.mpr (j6 d),(gd p d).2 i2⟩
theorem Qo(B:aP G){D:Nat}(hs:aG G D [("simple_part",o8),("zdegree",cZ),("split_roots",uk),("zexact",nG),("linear_of",se),("kept_off",uj),("sorted_intervals",uP)]):ao G (D+1) "isolate" C6:=bJ B (i:=65) (D:=D) (sp:=[("simple_part",o8),("zdegree",cZ),("split_roots",uk),("zexact",nG),("linear_of",se),("kept_off",uj),("sorted_intervals",uP)]) ["exact"] (by kernel_rfl) hs λvs Q h=>by
 apply cu h;intro v0 h0
 apply gY h0;intro a0 a1 a2 u
 refine aj λv=>?_
 obtain⟨_,c,x,y,⟨a,j⟩,b⟩:=u
 refine v ?_
 refine⟨rfl,bP (α:=gd 65 [("simple_part",o8),("zdegree",cZ),("split_roots",uk),("zexact",nG),("linear_of",se),("kept_off",uj),("sorted_intervals",uP)] ["exact"] [(.l .I [a0,a1,a2])] (aB Q)) (β:=True/\∃c x y,cv a0 a1 a2 c x y/\(x=y->∀(c0 c1 e:Int),cM c0 c1 e x->(∃s,c=e*s)->(c1≠0/\Sm 100 c0/\Sm 100 c1)/\∀(B:Int),2<=B->Sm 104 B->(∀(n d:Int),0<d->F2 c0 c1 n d=0->(↑(cq n):Int)<B*d)->wN [c0,c1] [((-B,1),B,1)] Q)/\(x≠y->∃p1 q1 p2 q2,(Sq a0 a1 a2 p1 q1 p2 q2/\(Sm 100 a0/\Sm 100 a1/\Sm 100 a2)/\q1*q2< 1099511627776)/\(∀(k:Nat) (m:Int),Dk k m->F3 a0 a1 a2 m (2^k)=0->JM a0 a1 a2 (dy k m) Q)/\∀(B:Int) (Fd:List (Nat×Int)),2<=B->Sm 104 B->aR Fd<=1000->(∀(I:Nat×Int),I∈Fd->dk p1 q1 p2 q2 B I/\qK p1 q1 p2 q2 B I)->(∃I,I∈Fd/\a8 p1 q1 B I)->(∃I,I∈Fd/\a8 p2 q2 B I)->wN [a0,a1,a2] (bS (iv B) Fd) Q)) (by kernel_rfl) ?_⟩
 have o:=a.sm
 have r:=a.swap.sm
 refine⟨trivial,c,x,y,a,λt c0 c1 e f z_=>⟨⟨by rw[f.e1];exact bH f.ne (fJ f.nx.pos),f.s0,f.s1⟩,λB b2 bs hb=>?_⟩,λg=>⟨x.1,x.2,y.1,y.2,⟨a.sq g,⟨a.s0,a.s1,a.s2⟩,j⟩,λk m hD hz=>?_,λB Fd b2 bs hl ok c1 c2=>Tj a.nx a.ny o.2.2.1 o.2.2.2 r.2.2.1 r.2.2.2 bs (gy (by decide) b2) hl ok c1 c2 b⟩⟩
 ·have be:0<B:=gy (by decide) b2
  obtain⟨l1,l2,l3⟩:=IL f be hb
  have gd:cJ x x B ((-B,1),(B,1)):=.go _ l3 l1 l2 (.inl rfl)
  rw[← t]at b
  exact Ke (mP rfl) (λJ q=>(bC.mp q).symm▸gd.small f.nx o.2.2.1 o.2.2.2 bs be) λys hp=>b B ys ⟨bs,be⟩ (by rw[hp.length_eq];exact mP rfl) (λJ q=>by rw[bC.mp (hp.mem_iff.mp q)];exact .inl gd) ⟨_,hp.mem_iff.mpr (.head _),gd⟩ ⟨_,hp.mem_iff.mpr (.head _),gd⟩
 ·have p:b7 (dy k m):=by obtain⟨_,_,_,_,h⟩:=fu k m;exact h
  rcases a.root p (QQ hz)with e|e
  ·rw[← e]at a b g j
   exact KA rfl hD p a (ot g) (by rw[bT];exact j) b
  ·rw[← e]at a b g j
   exact KA rfl hD p a.swap g j (sd.swap b)
end
section
variable {G:aK} {d:Nat} {Γ:Fm} {S:St}
def B5(p:List Int):Prop:=(p.length=2\/p.length=3)/\∀x∈p,Sm 300 x
def QS(p:List Int)(J:Iv)(Q:V->Prop):Prop:=∃(k:Nat) (m n:Int),(J=(dy k m,dy k n)/\(Dk k m/\Dk k n/\Dk (k+1) (m+n))/\B5 p)/\nf (λn d=>HL p n d) k m n λI=>Q (K.toV .W I)
def A5:aM:=λvs Q=>a2 (λv0 v1=>bq v0 λp=>nE v1 λJ=>QS p J Q) vs
theorem VU{D:Nat}(h2:ao G D "halved" rZ)(h3:ao G D "halved" Dp):ao G D "halved" A5:=by
 refine⟨h3.1,λvs Q d h hd=>?_⟩
 apply bI h;intro v w h0
 apply bL h0;intro p h1
 apply qD h1;intro J a
 obtain⟨k,m,n,⟨e,hD,hs⟩,hq⟩:=a
 try clear h1
 try clear h0
 try clear h
 revert hq
 revert hs
 revert p
 refine l4 ?_ ?_ ?_ ?_ ?_ ?_
 ·intro hs _
  exact absurd hs.1 (by decide)
 ·intro _ hs _
  exact absurd hs.1 (by simp)
 ·intro c0 c1 hs hq
  exact h2.2 [.l .I [c0,c1],K.toV .W J] Q d ⟨trivial,k,m,n,⟨e,hD,hs.2 _ (by simp),hs.2 _ (by simp)⟩,hq⟩ hd
 ·intro a0 a1 a2 hs hq
  exact h3.2 [.l .I [a0,a1,a2],K.toV .W J] Q d ⟨trivial,k,m,n,⟨e,hD,hs.2 _ (by simp),hs.2 _ (by simp),hs.2 _ (by simp)⟩,hq⟩ hd
 ·intro _ _ _ _ hs _
  exact absurd hs.1 (by simp)
 ·intro _ _ _ _ _ _ hs _
  exact absurd hs.1 (by simp)
theorem Nr(k:Nat)(m n:Int):aL ((dy k m).1*(dy k n).2-(dy k n).1*(dy k m).2) ((dy k m).2*(dy k n).2)=dy k (m-n):=by
 refine aj λf=>?_
 obtain⟨g,hg,e1,e2,h1⟩:=fu k m
 obtain⟨b,nS,f1,f2,h2⟩:=fu k n
 obtain⟨h,hh,e,d,h3⟩:=fu k (m-n)
 refine f ?_
 generalize dy k m=a at *
 generalize dy k n=c at *
 generalize dy k (m-n)=r at *
 have pa:=h1.pos
 have pc:=h2.pos
 refine jP (bH (by trivial) (by trivial)) h3 ?_
 refine k9 (a:=g*b*h) (bH (bH (by trivial) (by trivial)) (by trivial)) ?_
 simp only[show g*b*h*((a.1*c.2-c.1*a.2)*r.2)=((g*a.1)*(b*c.2)-(b*c.1)*(g*a.2))*(h*r.2) by grind,show g*b*h*(r.1*(a.2*c.2))=(h*r.1)*(g*a.2)*(b*c.2) by grind, ← e1, ← e2, ← f1, ← f2, ← e, ← d]
 grind
def BW:aM:=λvs Q=>a2 (λv0 v1=>du v0 λa=>du v1 λc=>∃(k:Nat) (m n:Int),(a=dy k m/\c=dy k n/\Dk k m/\Dk k n)/\Q (rV (dy k (m-n)))) vs
theorem Nj{D:Nat}(h:ao G D "rsub" B9):ao G D "rsub" BW:=h.weak λvs Q h=>by
 apply bI h;intro v w h0
 apply dY h0;intro a h1
 apply dY h1;intro c d
 obtain⟨k,m,n,⟨rfl,rfl,d1,b⟩,hq⟩:=d
 exact⟨⟨⟨Dk.ne,Dk.ne⟩,⟨d1.s1,d1.s2⟩,b.s1,b.s2⟩,by simp only[Nr];exact hq⟩
theorem GU{a c:Int}:decide (b2 (decide (a-c>0))-b2 (decide (a-c<0))>0)=decide (c<a):=by
 rcases gU a c with h|h|h
 ·have e:=MV h
  rw[decide_eq_false (rH e),decide_eq_true e,decide_eq_false (rH h)];rfl
 ·subst h;rw[kj,decide_eq_false (zZ a)];rfl
 ·have e:=wv h
  rw[decide_eq_true (show a-c>0 from e),decide_eq_false (rH e),decide_eq_true h];rfl
theorem VH(k:Nat)(d e:Int):decide (1*(dy k d).2< (dy k d).1*e)=decide (2^k<d*e):=by
 refine aj λa=>?_
 obtain⟨g,hg,e1,e2,_⟩:=fu k d
 refine a ?_
 generalize dy k d=y at *
 have h1:d*e=g*(y.1*e):=by rw[e1];grind
 simp only[e2,h1,kS,decide_eq_decide]
 exact(Int.mul_lt_mul_left hg).symm
noncomputable abbrev oZ:cp:=[("rcompare",qm),("rsub",BW),("simple_part",o8),("halved",A5)]
structure Cl(z:Int×Int)(lead:Int)(r:Int×Int):Prop where
 pos:0<r.2
 s1:Sm 1000 r.1
 s2:Sm 1000 r.2
 lo:z.1*r.2<=r.1*z.2
 hi:(r.1*z.2-z.1*r.2)*(2*lead)<=r.2*z.2
structure sM(L:List Int)(z o:Int×Int):Prop where
 sh:B5 L
 e: ∃c:Int,c≠0/\((o=z/\∀n d,HL L n d=c*(z.2*n-z.1*d))\/(o≠z/\∀n d,HL L n d=c*((z.2*n-z.1*d)*(o.2*n-o.1*d))))
theorem sM.half{L:List Int}{z o:Int×Int}{B:Int}{I:Nat×Int}(h:sM L z o)(ho:b7 o)(hB:0<B)(ok:dk z.1 z.2 o.1 o.2 B I)(i:a8 z.1 z.2 B I)(n:o=z\/¬ a8 o.1 o.2 B I):
  (aT (HL L (I.2+(I.2+2*B)) (2^(I.1+1)))==0)=decide (z.2*(2*I.2+2*B)-z.1*2^(I.1+1)=0)/\(z.2*(2*I.2+2*B)-z.1*2^(I.1+1)≠0->(aT (HL L (I.2+(I.2+2*B)) (2^(I.1+1)))==aT (HL L I.2 (2^I.1)))=decide (z.2*(2*I.2+2*B)-z.1*2^(I.1+1)<0)):=by
 obtain⟨c,hc,he⟩:=h.e
 rw[← xn]
 have key: ∃s:Int,s≠0/\aT (HL L (2*I.2+2*B) (2^(I.1+1)))=aT s*aT (z.2*(2*I.2+2*B)-z.1*2^(I.1+1))/\aT (HL L I.2 (2^I.1))=aT s*aT (z.2*I.2-z.1*2^I.1):=by
  have f:(o=z/\∀n d,HL L n d=c*(z.2*n-z.1*d))\/(¬ a8 o.1 o.2 B I/\∀n d,HL L n d=c*((z.2*n-z.1*d)*(o.2*n-o.1*d))):=by
   rcases he with h|h
   ·exact .inl h
   ·exact .inr ⟨n.resolve_left h.1,h.2⟩
  rcases f with⟨_,he⟩|⟨hn,he⟩
  ·exact⟨c,hc,by rw[he,ky],by rw[he,ky]⟩
  ·have v1:=ok.v.lo
   have l:=An (p:=o.1) (I:=I) ho.pos hB
   have es:aT (o.2*(2*I.2+2*B)-o.1*2^(I.1+1))=aT (o.2*I.2-o.1*2^I.1):=by
    rcases oE v1 with q|q
    ·rw[fY q,fY (jf l.2 (A4.mp (rq.mpr ⟨fX.mp λz=>hn ⟨q,z⟩,ok.v.hi⟩)))]
    ·rw[gF q,gF (jf (rL.mp q) l.1)]
   refine⟨c*(o.2*I.2-o.1*2^I.1),bH hc v1,?_,?_⟩
   ·simp only[he,ky,ky,es,ky,eK,bT (aT (o.2*I.2-o.1*2^I.1))]
   ·simp only[he,ky,ky,ky,eK,bT (aT (o.2*I.2-o.1*2^I.1))]
 refine aj λb=>?_
 obtain⟨s,hs,a,k2⟩:=key
 refine b ?_
 rw[a,k2]
 exact JN hs i.1
def iq(W:Sg->Prop)(Q:aC->Sg->Prop)(o:aC)(σ:Sg):Prop:=match o with
 | .next=>W σ
 | .ret v=>Q (.ret v) σ
noncomputable abbrev nD(a0 a1 a2:Int)(w:Int×Int)(L:List Int)(J:Iv):Sg:=⟨[("f",.val (.l .I [a0,a1,a2])),("interval",.val (K.toV .W J)),("width",.val (rV w)),("left",.val (.l .I L))],[]⟩
inductive nK(z o:Int×Int)(B:Int)(n:Nat)(J:Iv):Prop
 |go (I:Nat×Int) (e:J=iv B I) (ok:dk z.1 z.2 o.1 o.2 B I) (i:a8 z.1 z.2 B I) (no:o=z\/¬ a8 o.1 o.2 B I) (hn:I.1+n=151)
 |fin (k:Nat) (m:Int) (hD:Dk k m) (ez:dy k m=z) (e:J=(z,z))
theorem Kn{l:Int}(h0:0<l)(h:l<2^40):Sm 41 (2*l):=by
 obtain⟨l,rfl⟩:=mS (bZ h0)
 exact Sm.iff.mpr (dr (Yd (k:=2) (mX.mp (gy h (by decide:2^40<=((2^40:Nat):Int)))) (by decide)) (by decide:2*2^40<=2^41))
theorem Ra{z:Int×Int}{lead B:Int}{I:Nat×Int}(hz:b7 z)(hl:0<lead)(i:a8 z.1 z.2 B I)(hs:Dk I.1 (I.2+2*B))(h:¬ 2^I.1<2*B*(2*lead)):Cl z lead (iv B I).2:=by
 show Cl z lead (dy I.1 (I.2+2*B))
 obtain⟨g,hg,e1,e2,hn⟩:=fu I.1 (I.2+2*B)
 obtain⟨i1,i2⟩:=i
 have s1:Sm 1000 (dy I.1 (I.2+2*B)).1:=(wJ hs.m).mono (by decide)
 have s2:Sm 1000 (dy I.1 (I.2+2*B)).2:=(ul I.1 _).mono (by have :=hs.k;trivial)
 generalize dy I.1 (I.2+2*B)=r at *
 have e3:z.2*(I.2+2*B)=z.2*I.2+2*(z.2*B):=by grind
 have c:=hz.pos
 refine⟨hn.pos,s1,s2,FQ (a:=g) ?_ hg,FQ (a:=g) ?_ hg⟩
 ·simp only[show g*(z.1*r.2)=z.1*(g*r.2) by grind,show g*(r.1*z.2)=z.2*(g*r.1) by grind, ← e1, ← e2];trivial
 ·simp only[show g*((r.1*z.2-z.1*r.2)*(2*lead))=(z.2*(g*r.1)-z.1*(g*r.2))*(2*lead) by grind,show g*(r.2*z.2)=z.2*(g*r.2) by grind, ← e1, ← e2]
  refine bb (fI (b:=z.2*(2*B)) ?_ (fW (by decide) (bZ hl))) ((eK z.2 (2*B) (2*lead)).symm▸gA (fX.mp h) (bZ c))
  rw[FD,zQ,Int.add_sub_assoc]
  exact Int.add_le_of_le_sub_left (kj (z.2*(2*B))▸bZ i1)
def Jw(lead:Int)(L:List Int)(J:Iv)(E:Prop)(N:Iv->Prop):Prop:=∃(k:Nat) (m n:Int),(J.2=dy k m/\J.1=dy k n/\Dk k m/\Dk k n)/\(aq (dy k (m-n)).1 (2*lead)=true/\aq 1 (dy k (m-n)).2=true)/\
 aE (decide (b2 (decide ((dy k (m-n)).1*(2*lead)-1*(dy k (m-n)).2>0))-b2 (decide ((dy k (m-n)).1*(2*lead)-1*(dy k (m-n)).2<0))>0)) (∃(k:Nat) (m n:Int),(J=(dy k m,dy k n)/\(Dk k m/\Dk k n/\Dk (k+1) (m+n))/\B5 L)/\nf (λa b=>HL L a b) k m n N) E
section
variable {B lead:Int} {z o:Int×Int} {L:List Int} {n:Nat} {I:Nat×Int} {N:Iv->Prop}
theorem SY(ho:b7 o)(be:0<B)(h:nA o.1 o.2 B I)(no:¬ a8 o.1 o.2 B I):(¬ a8 o.1 o.2 B (I.1+1,2*I.2)/\¬ a8 o.1 o.2 B (I.1+1,2*I.2+2*B))/\o.2*(2*I.2+2*B)-o.1*2^(I.1+1)≠0:=by
 have l:=An (p:=o.1) (I:=I) ho.pos be
 have hw:o.2*(2*I.2+2*B)-o.1*2^(I.1+1)≠0:=λz=>no ⟨A4.mpr (z▸l.1),rL.mpr (z▸l.2)⟩
 exact⟨⟨λh=>no ((m5 ho.pos be hw).mpr (.inl ⟨h,λh'=>zZ _ (jf h'.1 h.2)⟩)),λh=>no ((m5 ho.pos be hw).mpr (.inr ⟨λh'=>zZ _ (jf h.1 h'.2),h⟩))⟩,hw⟩
theorem VX(m:sM L z o)(hz:b7 z)(ho:b7 o)(be:0<B)(ok:dk z.1 z.2 o.1 o.2 B I)(i:a8 z.1 z.2 B I)(no:o=z\/¬ a8 o.1 o.2 B I)(hk:I.1<150)(hs:I.1+(n+1)=151)(dm:Dk (I.1+1) (I.2+(I.2+2*B)))(g: ∀k,nK z o B n k->N k):nf (λa b=>HL L a b) I.1 I.2 (I.2+2*B) N:=by
 obtain⟨p,b2⟩:=m.half ho be ok i no
 have j:I.1+1+n=151:=(mT I.1 1 n).trans (rp 1 n▸hs)
 have h1:=Ce (B:=B) I
 have h2:=Aj (B:=B) I
 have d:o=z\/(¬ a8 o.1 o.2 B (I.1+1,2*I.2)/\¬ a8 o.1 o.2 B (I.1+1,2*I.2+2*B))/\o.2*(2*I.2+2*B)-o.1*2^(I.1+1)≠0:=no.imp id (SY ho be ok.v)
 unfold nf
 simp only[p]
 refine cw (λe=>?_) (λe=>?_)
 ·have c:=of_decide_eq_true e
  have ez:dy (I.1+1) (I.2+(I.2+2*B))=z:=jP (uZ _) hz (by rw[← xn,bT];exact MW.mp c)
  exact g _ (.fin _ _ dm ez (by rw[ez]))
 ·have c:=of_decide_eq_false e
  simp only[b2 c]
  have hi:=(m5 (I:=I) hz.pos be c).mp i
  obtain⟨l,k2⟩:=wR ok hk (bZ be) c (d.elim (λh=>by rw[h];exact c) (·.2))
  refine cw (λe=>?_) (λe=>?_)
  ·have f:=of_decide_eq_true e
   rw[← h2]
   exact g _ (.go _ rfl k2 (hi.elim (λh=>absurd f (fX.mpr (bZ h.1.2))) (·.2)) (d.imp id λh=>h.1.2) j)
  ·have f:=of_decide_eq_false e
   rw[← h1]
   exact g _ (.go _ rfl l (hi.elim (·.1) (λh=>absurd h.2.1 f)) (d.imp id λh=>h.1.1) j)
theorem Rx{J:Iv}{E:Prop}(d:sM L z o)(hz:b7 z)(ho:b7 o)(g:Sm 100 z.1)(f:Sm 100 z.2)(hB:Sm 104 B)(be:0<B)(hl:0<lead)(c:lead<2^40)
  (l: ∀m b,m<n->nK z o B m b->N b) (a:Cl z lead J.2->E) (hi:nK z o B n J):Jw lead L J E N:=by
 have sl:=Kn hl c
 have s1:Sm 1 1:=Sm.iff.mpr (by decide)
 rcases hi with⟨I,e,ok,i,no,hs⟩|⟨k,m,hD,ez,e⟩
 ·rw[e]at a ⊢
  have d0:=ok.d0 hB (bZ be)
  have d1:=ok.d1 hB (bZ be)
  have dd:Dk I.1 (2*B):=⟨d0.k,((Sm.iff.mpr (by decide):Sm 2 2).mul hB).mono (by decide)⟩
  refine⟨I.1,I.2+2*B,I.2,⟨rfl,rfl,d1,d0⟩,?_⟩
  rw[zQ I.2,MD,GU,VH]
  refine⟨⟨Sm.ok dd.s1 sl (by decide) (by decide),Sm.ok s1 dd.s2 (by decide) (by decide)⟩,wc (λe=>a (Ra hz hl i d1 (of_decide_eq_false e))) (λe=>?_)⟩
  have j:B<=2^104:=bb tY (bb (dH.mpr (eP (Sm.iff.mp hB))) (by decide))
  have hk:I.1<150:=Ga (gy (of_decide_eq_true e) (bb (rJ (gA j (by decide)) (gA (bZ c) (by decide)) (fW (by decide) (bZ hl)) (by decide)) (by decide)))
  induction n with
  |zero=>exact absurd hs (tL (dr hk (by decide)))
  |succ n=>exact⟨I.1,I.2,I.2+2*B,⟨rfl,⟨d0,d1,ok.dm hB (bZ be)⟩,d.sh⟩,VX d hz ho be ok i no hk hs (ok.dm hB (bZ be)) λb h=>l n b (lU n) h⟩
 ·rw[e]at a ⊢
  have e0:dy k (m-m)=(0,1):=by rw[kj];exact jP (uZ k) ⟨by decide,by decide⟩ (by simp)
  refine⟨k,m,m,⟨ez.symm,ez.symm,hD,hD⟩,?_⟩
  rw[e0]
  refine⟨⟨Sm.ok (Sm.lit (x:=0) (by decide)) sl (by decide) (by decide),Sm.ok s1 s1 (by decide) (by decide)⟩,wc (λz_=>a ⟨hz.pos,g.mono (by decide),f.mono (by decide),kU _,?_⟩) (λe=>?_)⟩
  ·show(z.1*z.2-z.1*z.2)*(2*lead)<=z.2*z.2
   simp only[kj,fV];exact bZ (da hz.pos hz.pos)
  ·rw[GU]at e
   exact absurd (of_decide_eq_true e) (by rw[fV];decide)
end
theorem Sf{a0 a1 a2 B lead:Int}{z o:Int×Int}{L:List Int}{R b:aC->Sg->Prop}{n:Nat}{J:Iv}(f:sM L z o)(hz:b7 z)(ho:b7 o)(d:Sm 100 z.1)(c:Sm 100 z.2)(hB:Sm 104 B)(be:0<B)(hl:0<lead)(e:lead<2^40)
  (hn: ∀m a,m<n->nK z o B m a->R .next (nD a0 a1 a2 (1,2*lead) L a)) (g: ∀a σ,Cl z lead a.2->b (.ret (K.toV .W a)) σ) (hi:nK z o B n J):lu (cy oZ) 20 (au 69).scope.names [] 4 (lp (au 69).body 2) (nD a0 a1 a2 (1,2*lead) L J) (λah=>sg 69 oZ [] ah ((au 69).body.drop 3) b) R:=
 aX (B:=Jw lead L J (b (.ret (K.toV .W J)) (nD a0 a1 a2 (1,2*lead) L J)) λa=>R .next (nD a0 a1 a2 (1,2*lead) L a)) (by kernel_rfl) (Rx f hz ho d c hB be hl e hn (g J _) hi)
def B6:aM:=λvs Q=>a3 (λv0 v1 v2=>f7 v0 λa0 a1 a2=>nE v1 λJ=>du v2 λw=>∃(c:Int) (z o:Int×Int) (B lead:Int),((cv a0 a1 a2 c z o/\w=(1,2*lead))/\cJ z o B J/\(Sm 104 B/\0<B)/\0<lead/\lead<2^40)/\∀a:Iv,Cl z lead a.2->Q (K.toV .W a)) vs
theorem RI(B:aP G){D:Nat}(hs:aG G D oZ):ao G (D+1) "refine" B6:=eD B (i:=69) (by kernel_rfl) hs λvs Q h=>by
 apply mY h;intro v0 v1 v2 h0
 apply gY h0;intro a0 a1 a2 h1
 apply qD h1;intro J h2
 apply dY h2;intro w v
 refine aj λA=>?_
 obtain⟨c,z,o,B,lead,⟨⟨a,rfl⟩,u,⟨hB,be⟩,hl,g⟩,t⟩:=v
 obtain⟨z1,z2,q,p⟩:=a.sm
 refine A ?_
 have sl:=Kn hl g
 have s1:Sm 1 1:=Sm.iff.mpr (by decide)
 have st: ∀L,sM L z o->lm 69 oZ [] (lp (au 69).body 2) ((au 69).body.drop 3) (aB Q) (nD a0 a1 a2 (1,2*lead) L J):=λL s=>by
  have go: ∀n x,nK z o B n x->lu (cy oZ) 20 (au 69).scope.names [] 4 (lp (au 69).body 2) (nD a0 a1 a2 (1,2*lead) L x) (λah=>sg 69 oZ [] ah ((au 69).body.drop 3) (aB Q)) (gC (nD a0 a1 a2 (1,2*lead) L) (nK z o B) (aB Q) n):=λn x hx=>
   Sf s a.nx a.ny q p hB be hl g (λm x' h i=>km h i) (λE σ h=>t E h) hx
  rcases u with⟨I,e,ok,i,no⟩|⟨k,m,hD,ez,e⟩
  ·exact⟨_,nD a0 a1 a2 (1,2*lead) L,nK z o B,151-I.1,J,.go I e ok i no (Nat.add_sub_of_le (zI ok.k)),λS h=>h,go⟩
  ·exact⟨_,nD a0 a1 a2 (1,2*lead) L,nK z o B,0,J,.fin k m hD ez e,λS h=>h,go⟩
 refine⟨rfl,λd Γ hd H C=>WS.whQ (i:=69) (mt:=[]) (k:=2) H hd C (by kernel_rfl) (by kernel_rfl) (aX (B:=((aq (1,2*lead).1 1=true/\aq 0 (1,2*lead).2=true)/\aE (decide (b2 (decide (ai (1,2*lead)*1-0*ak (1,2*lead)>0))-b2 (decide (ai (1,2*lead)*1-0*ak (1,2*lead)<0))<=0)) False (True/\∃c x y,cv a0 a1 a2 c x y/\(x=y->∀(c0 c1 e:Int),cM c0 c1 e x->(∃r,c=e*r)->(iq (lm 69 oZ [] (lp (au 69).body 2) ((au 69).body.drop 3) (aB Q)) (aB Q)) aC.next (Sg.mk [("f",.val (.l .I [a0,a1,a2])),("interval",.val (.t2 (V.t2 (V.i J.1.1) (V.i J.1.2)) (V.t2 (V.i J.2.1) (V.i J.2.2)))),("width",.val (.t2 (V.i (1,2*lead).1) (V.i (1,2*lead).2))),("left",.val (.l .I [c0,c1]))] []))/\(x≠y->(iq (lm 69 oZ [] (lp (au 69).body 2) ((au 69).body.drop 3) (aB Q)) (aB Q)) aC.next (Sg.mk [("f",.val (.l .I [a0,a1,a2])),("interval",.val (.t2 (V.t2 (V.i J.1.1) (V.i J.1.2)) (V.t2 (V.i J.2.1) (V.i J.2.2)))),("width",.val (.t2 (V.i (1,2*lead).1) (V.i (1,2*lead).2))),("left",.val (.l .I [a0,a1,a2]))] []))))) (by kernel_rfl) ⟨⟨Sm.ok s1 s1 (by decide) (by decide),Sm.ok (Sm.lit (x:=0) (by decide)) sl (by decide) (by decide)⟩,wc (λj=>⟨trivial,c,z,o,a,λe c0 c1 f b j=>st _ ⟨⟨.inl rfl,?_⟩,f,b.ne,.inl ⟨e.symm,λn d=>b.F n d⟩⟩,λe=>st _ ⟨⟨.inr rfl,?_⟩,c,a.ne,.inr ⟨λh=>e h.symm,λn d=>a.F n d⟩⟩⟩) (λe=>by rw[A9]at e;have :=of_decide_eq_true e;dsimp only at this;lia)⟩)⟩
 ·simp[b.s0.mono (show 100<=300 by decide),b.s1.mono (show 100<=300 by decide)]
 ·simp[a.s0.mono (show 100<=300 by decide),a.s1.mono (show 100<=300 by decide),a.s2.mono (show 100<=300 by decide)]
end
section
variable {G:aK} {d:Nat} {Γ:Fm} {S:St}
def m9(n f:Int):Prop:=∀d,2<=d->d<f->¬ d∣n
structure pp(n p:Int):Prop where
 two:2<=p
 dvd:p∣n
 least: ∀d,2<=d->d∣n->p<=d
theorem m9.exit{n f:Int}(h:m9 n f)(hn:2<=n)(hf:2<=f)(c:n<f*f):pp n n:=by
 refine⟨hn,FI n,λd hd b=>fX.mp λq=>?_⟩
 obtain⟨e,he⟩:=b
 have h1:f<=d:=fX.mp λz=>h d hd z ⟨e,he⟩
 have e1:0<e:=t5 (he▸gy (by decide) hn) (gy (by decide) hd)
 have a:2<=e:=rq.mpr ⟨e1,λz=>fJ q (he.trans (z▸dh d))⟩
 have h2:f<=e:=fX.mp λz=>h e a z ⟨d,he.trans (bT d e)⟩
 exact zZ _ (gy c (he▸rJ h1 h2 (bb (by decide) hf) (bb (by decide) hd)))
theorem Pt{f d:Int}(ho:f%2=1)(h1:f<d)(h2:d<f+2):2∣d:=by
 have e:d=f+1:=zy (FS (wb f 1 1▸h2)) h1
 exact ww (by rw[e,Int.add_emod,ho];rfl)
theorem m9.step{n f:Int}(h:m9 n f)(hf:2<=f)(ho:f=2\/f%2=1)(hn:¬ f∣n):m9 n (f+if f=2 then 1 else 2):=by
 intro d hd a b
 rcases gU d f with q|q|q
 ·exact h d hd q b
 ·exact hn (q▸b)
 ·by_cases h2:f=2
  ·rw[if_pos h2]at a
   exact fX.mpr (FS a) q
  ·rw[if_neg h2]at a
   exact h 2 (by decide) (rq.mpr ⟨hf,ot h2⟩) (rF (Pt (ho.resolve_left h2) q a) b)
theorem QM{f:Int}(ho:f=2\/f%2=1):f+1<=(f+if f=2 then 1 else 2)/\(f+if f=2 then 1 else 2)<=f+2/\(f+if f=2 then 1 else 2)%2=1:=by
 by_cases h2:f=2
 ·subst h2;decide
 ·rw[if_neg h2]
  exact⟨ML (by decide) f,kU _,Int.add_emod_right f 2▸ho.resolve_left h2⟩
theorem pp.found{n f:Int}(h:m9 n f)(hf:2<=f)(hd:f∣n):pp n f:=⟨hf,hd,λd h2 a=>fX.mp λz=>h d h2 z a⟩
theorem Jh{n f:Int}(hf:0<f):(n.fmod f==0)=decide (f∣n):=by
 rw[MC _ (by trivial)]
 by_cases h:f∣n
 ·rw[decide_eq_true h,Int.emod_eq_zero_of_dvd h];rfl
 ·rw[decide_eq_false h]
  exact beq_eq_false_iff_ne.mpr λz=>h (ww z)
noncomputable abbrev po(n b f:Int):Sg:=⟨[("n",.val (.i n)),("begin",.val (.i b)),("found",.val (.i f))],[]⟩
inductive u5(n:Int)(k:Nat)(f:Int):Prop
 |mk (h1:2<=f) (h2:f<=n+2) (h3:m9 n f) (h4:f=2\/f%2=1) (h5:k=(n+2-f).toNat)
def Db:aM:=λvs Q=>a2 (λv0 v1=>br v0 λn=>br v1 λb=>((2<=n/\Sm 100 n)/\(2<=b/\m9 n b)/\(b=2\/b%2=1))/\∀p:Int,pp n p->Q (.i p)) vs
theorem Qh(B:aP G):ao G 1 "least_divisor" Db:=eD B (i:=5) (D:=0) (sp:=[]) (by kernel_rfl) (λp h=>nomatch h) λvs Q h=>by
 apply bI h;intro v0 v1 h0
 apply dI h0;intro n h1
 apply dI h1;intro b w
 refine aj λj=>?_
 obtain⟨⟨⟨hn,hs⟩,⟨hb,hd⟩,ho⟩,q⟩:=w
 refine j ?_
 have s:b<=n:=fX.mp λz=>hd n hn z (FI n)
 refine⟨rfl,λd Γ v u y=>WS.whP (i:=5) (mt:=[]) (k:=1) u v y (by kernel_rfl) (by kernel_rfl) (po n b) (u5 n) _ b (aX (B:=(aC.next= .next/\po n b b=po n b b)) (by kernel_rfl) ⟨rfl,rfl⟩) ⟨hb,bb s (t6 (by decide)),hd,ho,rfl⟩ λk f hx=>aX (B:=(aq f f=true/\aE (decide (f*f<=n)) (f≠0/\aE (p5 n f==0) ((gC (po n b) (u5 n) (aB Q) k) (aC.ret (V.i f)) (Sg.mk [("n",.val (.i n)),("begin",.val (.i b)),("found",.val (.i f))] [])) (aE (f==2) ((gC (po n b) (u5 n) (aB Q) k) aC.next (Sg.mk [("n",.val (.i n)),("begin",.val (.i b)),("found",.val (.i (f+1)))] [])) ((gC (po n b) (u5 n) (aB Q) k) aC.next (Sg.mk [("n",.val (.i n)),("begin",.val (.i b)),("found",.val (.i (f+2)))] [])))) ((aB Q) (aC.ret (V.i n)) (Sg.mk [("n",.val (.i n)),("begin",.val (.i b)),("found",.val (.i f))] [])))) (by kernel_rfl) ?_⟩
 refine aj λj=>?_
 obtain⟨i1,i2,c,o,t⟩:=hx
 refine j ?_
 have hp:0<f:=gy (by decide) i1
 have l:Sm 165 f:=(hs.add (Sm.lit (x:=2) (by decide))).of_le (nk (bZ hp) i2)
 have go: ∀g,g=f+(if f=2 then 1 else 2)->¬ f∣n->f*f<=n->gC (po n b) (u5 n) (aB Q) k .next (po n b g):=λg hg a hle=>by
  have r:f<=n:=bb (bb (oF (dh f).symm) (gA hp (bZ hp))) hle
  have h6:=c.step i1 o a
  rw[← hg]at h6
  have :f+1<=g/\g<=f+2/\(g%2=1):=hg▸QM o
  exact km (m:=(n+2-g).toNat) (by rw[t];exact CC (Ye (gy (Int.lt_add_one_iff.mpr (kU f)) this.1) _) (wv (oB r (rG n (by decide))))) ⟨bb i1 (bb (t6 (by decide)) this.1),bb this.2.1 (Int.add_le_add_right r 2),h6,.inr this.2.2,rfl⟩
 refine⟨Sm.ok l l (by decide) (by decide),cw (λe=>⟨fJ hp,?_⟩) (λe=>q n (c.exit hn i1 (l8.mp (of_decide_eq_false e))))⟩
 have hle:=of_decide_eq_true e
 rw[Jh hp]
 refine cw (λe=>q f (.found c i1 (of_decide_eq_true e))) (λe=>?_)
 have a:=of_decide_eq_false e
 exact cw (λe=>go _ (by rw[if_pos (by simpa using e)]) a hle) (λe=>go _ (by rw[if_neg (by simpa using e)]) a hle)
end
section
variable {G:aK} {d:Nat} {Γ:Fm} {S:St}
noncomputable abbrev w7:cp:=[("least_divisor",Db)]
noncomputable abbrev X4:=Int×Int×List (Int×Int)×Sl
noncomputable abbrev jh(x:X4):Sg:=⟨[("n",.val (.i x.1)),("found",.own .R x.2.2.1),("prime",.val (.i x.2.1)),("many",x.2.2.2)],[]⟩
structure ud(p:Int):Prop where
 two:2<=p
 only : ∀g,2<=g->g∣p->g=p
theorem pp.prime{n p:Int}(h:pp n p):ud p:=⟨h.two,λg hg hd=>by
 have h1:=h.least g hg (rF hd h.dvd)
 have h2:=t7 (by have :=h.two;trivial) hd
 trivial⟩
noncomputable def iU(fs:List (Int×Int)):Int:=fs.foldl (λa x=>a*x.1^x.2.toNat) 1
noncomputable def cD(fs:List (Int×Int)):Int:=fs.foldl (λa x=>a*(x.2+1)) 1
theorem HX(fs:List (Int×Int))(x:Int×Int):iU (fs++[x])=iU fs*x.1^x.2.toNat:=by unfold iU;rw[rD];rfl
theorem FX(fs:List (Int×Int))(x:Int×Int):cD (fs++[x])=cD fs*(x.2+1):=by unfold cD;rw[rD];rfl
noncomputable def kF(p:Int):Int:=if p=2 then 1 else if p=3 then 4 else 16
structure Jm(N:Int)(fs:List (Int×Int)):Prop where
 e:N=iU fs
 pr: ∀x∈fs,ud x.1/\0<=x.2/\x.2<=100/\Sm 100 x.1
 len:1<=cD fs/\cD fs*cD fs<=16*N
 l:fs.length<=100
structure oQ(N:Int)(k:Nat)(x:X4):Prop where
 n1:1<=x.1
 p2:2<=x.2.1
 no:m9 x.1 x.2.1
 odd:x.2.1=2\/x.2.1%2=1
 e:N=iU x.2.2.1*x.1
 len:1<=cD x.2.2.1/\cD x.2.2.1*cD x.2.2.1*x.1<=kF x.2.1*N
 pr: ∀y∈x.2.2.1,ud y.1/\0<=y.2/\y.2<=100/\Sm 100 y.1
 l:2^x.2.2.1.length*x.1<=N
 k:k=x.1.toNat
structure Kz(n p:Int)(k:Nat)(x:Int×Int):Prop where
 n1:1<=x.1
 m0:0<=x.2
 e:n=p^x.2.toNat*x.1
 k:k=x.1.toNat
theorem Ij{a p:Int}(h0:0<=a)(h:a<=p)(m:Nat):a^m<=p^m:=by
 induction m with
 |zero=>exact oF ((fp a).trans (fp p).symm)
 |succ m b=>exact ki p m▸ki a m▸rJ b h h0 (Int.pow_nonneg (bb h0 h))
theorem HF{p:Int}(hp:2<=p)(m:Nat):2^m<=p^m:=Ij (by decide) hp m
theorem SF{a:Nat}(h:3<=a):(a+1)*(a+1)<=2*(a*a):=by
 have e:(a+1)*(a+1)=a*a+(2*a+1):=by rw[Nat.add_mul,Nat.mul_add,FM,MF,Ms,mT,mT]
 exact e▸Ms (a*a)▸kY (aZ (kY (aZ (by decide) h) (2*a)) (Nat.succ_mul 2 a▸Nat.mul_le_mul_right a h)) _
theorem Xd(m:Nat):((m:Int)+1)*((m:Int)+1)<=4*2^m:=by
 have h: ∀m:Nat,(m+1)*(m+1)<=4*2^m:=λm=>by
  induction m with
  |zero=>decide
  |succ m a=>
   cases m with
   |zero=>decide
   |succ m=>cases m with
    |zero=>decide
    |succ m=>exact aZ (SF (FB 3 m)) (aZ (MK 2 a) (iK (by rw[MI 2 (m+1+1),Nat.mul_left_comm,Nat.mul_comm 2])))
 have :=dH.mpr (h m)
 rwa[jx,jx,zW]at this
theorem O2{p:Int}(hp:4<=p)(m:Nat):((m:Int)+1)*((m:Int)+1)<=1*p^m:=by
 have h:((m:Int)+1)<=2^m:=by
  have :=dH.mpr (Nat.lt_two_pow_self (n:=m))
  rwa[zW]at this
 exact(kS _).symm▸bb (rJ h h (jz (m+1)) (bZ (nB m))) (Int.mul_pow (a:=2) (b:=2)▸Ij (by decide) hp m)
noncomputable abbrev jF(p:Int):Int:=if p=2 then 3 else p+2
theorem VD(p:Int):kF p<=16:=by
 unfold kF;split
 ·decide
 ·split<;>decide
theorem Vv{p0 p:Int}(h2:2<=p0)(h:p0<=p)(m:Nat): ∃C:Int,0<=C/\((m:Int)+1)*((m:Int)+1)<=C*p^m/\C*kF p0<=kF (jF p):=by
 rcases Int.lt_or_le 3 p with h4|h4
 ·have e:kF (jF p)=16:=by
   have c:p≠2:=fJ (jf (by decide) h4)
   have g:4<p+2:=MU (jf (by decide:(2:Int)<3) h4) 2
   unfold kF jF;rw[if_neg c,if_neg (fJ (jf (by decide) g)),if_neg (fJ (jf (by decide) g))]
  exact⟨1,by decide,O2 h4 m,by rw[e,kS];exact VD p0⟩
 ·have h5:=bb h2 h
  refine⟨4,by decide,bb (Xd m) (gA (HF h5 m) (by decide)),?_⟩
  obtain⟨a,rfl⟩:=mS (bb (by decide) h2)
  obtain⟨b,rfl⟩:=mS (bb (by decide) h5)
  have k: ∀b,b<4->∀a,a<4->2<=a->a<=b->4*kF (a:Nat)<=kF (jF (b:Nat)):=by decide
  exact k b (zP (dH.mp h4)) a (zP (dH.mp (bb h h4))) (dH.mp h2) (dH.mp h)
theorem G8{a b:Int}(h1:1<=a)(h:2*a<=b):a.toNat<b.toNat:=
 (Int.toNat_lt_toNat (gy (da (by decide) h1) h)).mpr (gy (rI a▸rG a h1) h)
theorem IH{m:Nat}{a b:Int}(h:2^m<=a)(c:a<=b)(hb:Sm 100 b):m<=100:=by
 refine Nat.le_of_not_lt λz=>?_
 have h1:=dH.mp (zW 2 m▸bb (bb h c) tY:((2^m:Nat):Int)<=(b.natAbs:Int))
 exact jY _ (dr (Sm.iff.mp hb) (aZ (MH (by decide) (eP z)) h1))
theorem Gg(k:Nat):(1:Int)<=2^k:=nB k
theorem Nz{N n n1 p0 p m:Int}{F:List (Int×Int)}{s s':Sl}{k:Nat}(t:Sm 100 N)(hi:oQ N k (n,p0,F,s))(hp:pp n p)(h1:1<=n1)(hm:0<=m)(he:n=p^m.toNat*n1)(hd:¬ p∣n1):
  ∃k',k'<k/\oQ N k' (n1,jF p,F++[(p,m)],s'):=by
 obtain⟨m,rfl⟩:=mS hm
 replace he:n=p^m*n1:=he
 have r:=hp.prime
 have h2:=hp.two
 have i:0<p:=gy (by decide) h2
 have A:0<=n1:=bb (by decide) h1
 have x:2<=p^m:=by
  cases m with
  |zero=>exact absurd ((show n=n1 by rw[he,fp,kS])▸hp.dvd) hd
  |succ j=>exact ki p j▸rJ (a:=1) (FN i) h2 (by decide) (bZ (FN i))
 have u:2*n1<=n:=he▸fI x A
 have B:n1∣n:=⟨p^m,he.trans (bT _ _)⟩
 have w: ∀{d:Int},d∣n1->d∣n:=λh=>rF h B
 have q:n<=N:=bb (u7 (Gg F.length) (bb (by decide) hi.n1)) hi.l
 have b:m<=100:=IH (bb (HF h2 m) (oF (dh _).symm)) (bb (he▸gA h1 (bb (by decide) x)) q) t
 obtain⟨C,c0,c1,c2⟩:=Vv hi.p2 (fX.mp λz=>hi.no p h2 z hp.dvd) m
 have g:0<=cD F:=bb (by decide) hi.len.1
 have e1:cD (F++[(p,(m:Int))])=cD F*(m+1):=FX F _
 have v:p≠2->p%2=1:=λz=>(Int.emod_two_eq p).resolve_left λe=>z (r.only 2 (by decide) (ww e)).symm
 refine⟨n1.toNat,hi.k▸G8 h1 u,h1,?_,λd hd2 c o=>?_,.inr ?_,?_,⟨e1▸?_,e1▸?_⟩,λy f=>?_,?_,rfl⟩
 ·show 2<=jF p;unfold jF;split
  ·decide
  ·exact bb h2 (t6 (by decide))
 ·have a:=rq.mpr ⟨hp.least d hd2 (w o),λz=>hd (z▸o)⟩
  have c:d<jF p:=c
  unfold jF at c
  split at c
  ·next e=>exact fX.mpr (FS c) (e▸a)
  ·next e=>
   have G:d=p+1:=zy (FS (wb p 1 1▸c)) a
   have e2:(2:Int)∣d:=ww (by rw[G,Int.add_emod,v e];rfl)
   exact e (zy (hp.least 2 (by decide) (rF e2 (w o))) h2)
 ·show jF p%2=1
  unfold jF;split
  ·rfl
  ·next e=>rw[Int.add_emod_right];exact v e
 ·show N=iU (F++[(p,(m:Int))])*n1
  rw[HX,hi.e,he,eK];rfl
 ·exact rJ hi.len.1 (show 1<=(m:Int)+1 from dH.mpr (je (dx m))) (by decide) g
 ·have q2:=gA c1 (fW (fW g g) A)
  have E:cD F*cD F*n1*(C*p^m)=C*(cD F*cD F*n):=by rw[he];grind
  have D:cD F*cD F*n1*(((m:Int)+1)*(m+1))=cD F*(m+1)*(cD F*(m+1))*n1:=by grind
  refine bb (D▸E▸q2) (bb (gA hi.len.2 c0) ?_)
  rw[← eK]
  exact fI c2 (bb (bb (by decide) hi.n1) q)
 ·rcases iI.mp f with f|f
  ·exact hi.pr y f
  ·obtain rfl:=bC.mp f;exact⟨r,hm,dH.mpr b,t.of_le (nk (bZ i) (bb (t7 hi.n1 hp.dvd) q))⟩
 ·show 2^(F++[(p,(m:Int))]).length*n1<=N
  rw[fF,FP,ki,eK]
  exact bb (gA u (bZ (nB _))) hi.l
def Cr:aM:=λvs Q=>a1 (λv0=>br v0 λN=>(1<=N/\Sm 100 N)/\∀fs:List (Int×Int),Jm N fs->Q (.l .R fs)) vs
theorem Sn(B:aP G){D:Nat}(hs:aG G D w7):ao G (D+1) "prime_factors" Cr:=eD B (i:=6) (by kernel_rfl) hs λvs Q h=>by
 apply cu h;intro v0 h0
 apply dI h0;intro N bf
 obtain⟨⟨Z,f⟩,Y⟩:=bf
 refine⟨rfl,λd Γ hd j E=>WS.at_ (k:=1) (by kernel_rfl) ((bW j hd (by rw[E]) (aX (A:=sg 6 w7 ["found"] (gG (au 6) [.i N]) ((au 6).body.take 1) (λo ah=>o= .next/\ah=⟨[("n",.val (.i N)),("found",.own .I []),("prime",.val (.i 2)),("many",.any)],[]⟩)) (B:=(aC.next= .next/\Sg.mk [("n",.val (.i N)),("found",.own .I []),("prime",.val (.i 2)),("many",.any)] []=⟨[("n",.val (.i N)),("found",.own .I []),("prime",.val (.i 2)),("many",.any)],[]⟩)) (by kernel_rfl) ⟨rfl,rfl⟩)).mono λo ah q=>?_)⟩
 obtain⟨rfl,rfl⟩:=q
 have hn:Γ.env.scope.names=(au 6).scope.names:=by rw[E]
 refine WS.weak (σ':=jh (N,2,[],.any)) (λS f=>f.nilk (pre:=[_]) (post:=[_,_])) (WS.whlG (N:=20) j hd hn (by kernel_rfl) jh (oQ N) (n0:=N.toNat) (N,2,[],.any) ⟨Z,kU 2,λd h1 h2=>by dsimp only at h2;lia,.inl rfl,by show N=1*N;lia,⟨kU 1,by show 1*1*N<=1*N;lia⟩,(λy h=>nomatch h),by show 2^0*N<=N;lia,rfl⟩ rfl λk x hx=>⟨λb ah=>b=decide (x.1>1)/\ah=jh x,aX (B:=(decide (x.1>1)=decide (x.1>1)/\jh x=jh x)) (by kernel_rfl) ⟨rfl,rfl⟩,λb ah q=>?_⟩)
 obtain⟨rfl,rfl⟩:=q
 obtain⟨n,p0,F,s⟩:=x
 dsimp only
 have gJ:=hx
 obtain⟨i1,i2,O,M,L,v,J,u,W⟩:=gJ
 dsimp only at i1 i2 O M L v J u W
 have P:F.length<=100:=IH (bb (oF (dh _).symm) (gA i1 (bZ (nB F.length)))) u f
 have C:n<=N:=bb (u7 (Gg F.length) (bb (by decide) i1)) u
 have sn:Sm 100 n:=f.of_le (nk (bb (by decide) i1) C)
 refine⟨λe=>?_,λe=>?_⟩
 ·have e1:n=1:=by have :=of_decide_eq_false e;lia
  refine bW j hd hn (aX (A:=sg 6 w7 ["found"] (jh (n,p0,F,s)) ((au 6).body.drop 2) (aB Q)) (B:=Q (.l .R F)) (by kernel_rfl) (Y F ⟨by rw[L,e1,dh],J,⟨v.1,?_⟩,P⟩))
  have a:=v.2
  rw[e1,dh]at a
  refine bb a (fI ?_ (by lia))
  unfold kF;split
  ·decide
  ·split<;>decide
 ·have U:2<=n:=by have :=of_decide_eq_true e;lia
  refine WS.whQ (i:=6) (mt:=["found"]) (k:=1) j hd E (by kernel_rfl) (by kernel_rfl) (aX (B:=((((2:Int)<=n/\Sm 100 n)/\((2:Int)<=p0/\∀(d:Int),(2:Int)<=d->d<p0->¬d∣n)/\(p0=(2:Int)\/p0%(2:Int)=1))/\∀(p0:Int),pp n p0->(iq (lm 6 w7 ["found"] (lp (sO (lp (au 6).body 1)) 1) ((sO (lp (au 6).body 1)).drop 2) (gC jh (oQ N) (aB Q) k)) (gC jh (oQ N) (aB Q) k)) aC.next (Sg.mk [("n",.val (.i n)),("found",.own .R F),("prime",.val (.i p0)),("many",.val (.i 0))] []))) (by kernel_rfl) ⟨⟨⟨U,sn⟩,⟨i2,O⟩,M⟩,λp hp=>?_⟩)
  have c:0<p:=gy (by decide) hp.two
  have w:p<=n:=t7 i1 hp.dvd
  have sp:bk p 8000=true:=(sn.of_le (nk (bZ c) w)).mono (by decide)
  refine⟨Int×Int,λy=>jh (y.1,p,F,.val (.i y.2)),Kz n p,n.toNat,(n,0),⟨by lia,kU 0,by show n=p^0*n;rw[fp,kS],rfl⟩,λS h=>h,λk' y X=>aX (B:=(p≠0/\aE (p5 y.1 p==0) ((p≠0/\bk p 8000=true)/\(gC (λy=>jh (y.1,p,F,.val (.i y.2))) (Kz n p) (gC jh (oQ N) (aB Q) k) k') aC.next (Sg.mk [("n",.val (.i (bg y.1 p))),("found",.own .R F),("prime",.val (.i p)),("many",.val (.i (y.2+1)))] [])) (aR F<10000000/\aE (p==(2:Int)) ((gC jh (oQ N) (aB Q) k) aC.next (Sg.mk [("n",.val (.i y.1)),("found",.own .R (F++[(p,y.2)])),("prime",.val (.i (3:Int))),("many",.val (.i y.2))] [])) ((gC jh (oQ N) (aB Q) k) aC.next (Sg.mk [("n",.val (.i y.1)),("found",.own .R (F++[(p,y.2)])),("prime",.val (.i (p+(2:Int)))),("many",.val (.i y.2))] []))))) (by kernel_rfl) ?_⟩
  obtain⟨n1,m⟩:=y
  obtain⟨t,g,r,H⟩:=X
  dsimp only at t g r H ⊢
  rw[Jh c]
  refine⟨fJ c,cw (λe=>⟨⟨fJ c,sp⟩,?_⟩) (λe=>⟨d7 P (by decide),?_⟩)⟩
  ·obtain⟨q,hq⟩:=of_decide_eq_true e
   have ef:n1.fdiv p=q:=by rw[hq];exact FJ _ (fJ c)
   rw[ef]
   have q1:1<=q:=t5 (hq▸t) c
   have q2:2*q<=n1:=hq▸fI hp.two (bb (by decide) q1)
   refine km (st:=λy:Int×Int=>jh (y.1,p,F,.val (.i y.2))) (x':=(q,m+1)) (m:=q.toNat) (H▸G8 q1 q2) ⟨q1,Me g (by decide),?_,rfl⟩
   show n=p^(m+1).toNat*q
   rw[Int.toNat_add g (by decide),Int.pow_add,r,hq, ← eK];exact congrArg (λz=>p^m.toNat*z*q) (oG p).symm
  ·obtain⟨k2,hk,hi⟩:=Nz (s':=.val (.i m)) f hx hp t g r (of_decide_eq_false e)
   refine cw (λe=>?_) (λe=>?_)
   ·unfold jF at hi
    rw[if_pos (by simpa using e)]at hi
    exact km hk hi
   ·unfold jF at hi
    rw[if_neg (by simpa using e)]at hi
    exact km hk hi
end
section
variable {G:aK} {d:Nat} {Γ:Fm} {S:St}
noncomputable abbrev Hi:cp:=[("prime_factors",Cr)]
theorem Hf{α:Type}(g:α->Int)(l:List α): ∀(s:Int),l.foldl (λa x=>a*g x) s=s*l.foldl (λa x=>a*g x) 1:=by
 induction l with
 |nil=>exact λs=>(dh s).symm
 |cons x l b=>exact λs=>(b (s*g x)).trans (by rw[wm,b (1*g x),kS,eK])
theorem Qm(a b:List (Int×Int)):iU (a++b)=iU a*iU b:=by unfold iU;rw[rD];exact Hf (λx:Int×Int=>x.1^x.2.toNat) b _
theorem KC(a b:List (Int×Int)):cD (a++b)=cD a*cD b:=by unfold cD;rw[rD];exact Hf (λx:Int×Int=>x.2+1) b _
theorem JV(b:List (Int×Int)):(∀x∈b,0<=x.2)->1<=cD b:=by
 induction b with
 |nil=>exact λz_=>kU 1
 |cons x b a=>
  intro h
  have e:cD (x::b)=1*(x.2+1)*cD b:=KC [x] b
  rw[e,kS]
  exact da (Int.lt_add_one_iff.mpr (h x List.mem_cons_self)) (a λy c=>h y (Mc _ c))
theorem Gv(a p:Int)(m:Nat):a*p^(m+1)=p*(a*p^m):=by rw[ki, ← eK,bT p]
theorem V5{p:Int}(hp:ud p)(m:Nat): ∀(d a:Int),0<d->d∣a*p^m->∃(t:Nat) (e:Int),t<=m/\0<e/\e∣a/\d=e*p^t:=by
 have h2:=hp.two
 have f:0<p:=gy (by decide) h2
 induction m with
 |zero=>exact λd a hd h=>⟨0,d,cR _,hd,by rwa[fp,dh]at h,by rw[fp,dh]⟩
 |succ m n=>
  intro d a hd h
  by_cases o:p∣d
  ·obtain⟨e,rfl⟩:=o
   obtain⟨t,b,i,c,l,rfl⟩:=n e a (t5 hd f) (Int.dvd_of_mul_dvd_mul_left (fJ f) (Gv a p m▸h))
   exact⟨t+1,b,je i,c,l,(Gv b p t).symm⟩
  ·have g1:((bp d p:Nat):Int)∣d:=zU ..
   have g2:((bp d p:Nat):Int)∣p:=zV ..
   have hg:bp d p=1:=by
    generalize bp d p=g at g1 g2
    cases g with
    |zero=>exact absurd (Int.zero_dvd.mp g2) (fJ f)
    |succ k=>cases k with
     |zero=>rfl
     |succ k=>exact absurd (hp.only _ (dH.mpr (FB 2 k)) g2▸g1) o
   obtain⟨t,b,i,c,l,j⟩:=n d a hd (qc (m:=p) hg (by rw[eK, ← ki];exact h))
   exact⟨t,b,zI i,c,l,j⟩
noncomputable def sV(p m x:Int):List Int:=(kR (m+1).toNat).map λt=>x*p^t
theorem U7{p m:Int}(F:List Int):(F.map (sV p m)).flatten.length=F.length*(m+1).toNat:=by
 induction F with
 |nil=>exact(Nat.zero_mul _).symm
 |cons x F a=>rw[gr,zw,fF,a,ze,Nat.succ_mul,rp];exact congrArg (_+ ·) ((bi _).trans oA)
structure kA(N:Int)(F:List Int):Prop where
 all: ∀d,0<d->d∣N->d∈F
 only : ∀d∈F,1<=d/\d∣N
theorem kA.step{a p m:Int}{F:List Int}(h:kA a F)(hp:ud p)(hm:0<=m):kA (a*p^m.toNat) ((F.map (sV p m)).flatten):=by
 obtain⟨m,rfl⟩:=mS hm
 refine⟨λd hd i=>?_,λd hd=>?_⟩
 ·obtain⟨t,e,b,he,f,g⟩:=V5 hp m d a hd i
  exact List.mem_flatten.mpr ⟨sV p m e,j6 (h.all e he f),bF.mpr ⟨t,rh.mpr (zP b),g.symm⟩⟩
 ·obtain⟨l,hl,hd⟩:=List.mem_flatten.mp hd
  obtain⟨e,he,rfl⟩:=bF.mp hl
  obtain⟨t,b,rfl⟩:=bF.mp hd
  obtain⟨h1,c,rfl⟩:=h.only e he
  refine⟨da h1 (FN (gy (by decide) hp.two)),c*p^(m-t),?_⟩
  show e*c*p^m=e*p^t*(c*p^(m-t))
  rw[← Nat.add_sub_of_le (Nat.le_of_lt_succ (rh.mp b)),Int.pow_add,tR,eK,eK,tX c]
structure GD(fs:List (Int×Int))(j:Nat)(x:List Int×Sl×Sl):Prop where
 ok:kA (iU (fs.take j)) x.1
 len:(x.1.length:Int)=cD (fs.take j)
noncomputable abbrev HM(n:Int)(x:List Int×Sl×Sl):Sg:=⟨[("n",.val (.i n)),("found",.own .I x.1)],[("many",x.2.1),("prime",x.2.2)]⟩
def CT:aM:=λvs Q=>a1 (λv0=>br v0 λn=>(n≠0/\n.natAbs<=10000000000)/\∀ys:List Int,kA (n.natAbs:Int) ys->(ys.length:Int)*ys.length<=16*(n.natAbs:Int)->Q (.l .I ys)) vs
theorem N8(B:aP G){D:Nat}(hs:aG G D Hi):ao G (D+1) "divisors" CT:=eD B (i:=7) (by kernel_rfl) hs λvs Q h=>by
 apply cu h;intro v0 h0
 apply dI h0;intro n N
 refine aj λq=>?_
 obtain⟨⟨A,hn⟩,L⟩:=N
 refine q ?_
 have v:Sm 100 (n.natAbs:Int):=Sm.iff.mpr (d7 hn (by decide))
 have C:0< (n.natAbs:Int):=mX.mpr (zX.mpr A)
 refine⟨rfl,λd Γ hd M O=>WS.foP (i:=7) (mt:=["found"]) (k:=1) M hd O (by kernel_rfl) (by kernel_rfl) (aX (B:=((1<=(↑(cq n):Int)/\Sm (100:Nat) (↑(cq n):Int))/\∀(fs:List (Int×Int)),Jm (↑(cq n):Int) fs->(qF 7 Hi ["found"] (lp (au 7).body 1) ((au 7).body.drop 2) (aB Q)) K.R fs (Sg.mk [(al "n",Sl.val (V.i n)),(al "found",Sl.own K.I [1])] [(al "many",Sl.any),(al "prime",Sl.any)]))) (by kernel_rfl) ⟨⟨by trivial,v⟩,λfs hF=>⟨_,HM n,GD fs,([1],.any,.any),⟨⟨λd h1 h2=>?_,λd hd=>?_⟩,rfl⟩,rfl,λj pr b hx c=>aX (B:=(∃o:K.D K.I->List Int,(∀(x:K.D K.I),x∈b.1->bE (ak pr+1)/\∃f:K.D K.I->Int,(∀(y:K.D K.I),y∈bD 0 1 (bY (ak pr+1))->(0<=y/\ce (ai pr) (bY y)=true)/\aq x (ai pr^bY y)=true/\V.i (x*ai pr^bY y)=V.i (f y)/\Sg.mk [(al ".0",Sl.any),(al "one",Sl.val (V.i x)),(al "times",Sl.any)] [(al "many",Sl.val (V.i (ak pr))),(al "prime",Sl.val (V.i (ai pr)))]=Sg.mk [(al ".0",Sl.any),(al "one",Sl.val (V.i x)),(al "times",Sl.any)] [(al "many",Sl.val (V.i (ak pr))),(al "prime",Sl.val (V.i (ai pr)))])/\(nH [(al ".0",Sl.any),(al "one",Sl.val (V.i x)),(al "times",Sl.any)] [(al ".0",Sl.any),(al "one",Sl.any),(al "times",Sl.any)]=true/\[(al "many",Sl.val (V.i (ak pr))),(al "prime",Sl.val (V.i (ai pr)))]=[(al "many",Sl.val (V.i (ak pr))),(al "prime",Sl.val (V.i (ai pr)))])/\o x=bS f (bD 0 1 (bY (ak pr+1))))/\aR (zS (bS o b.1))<=(1000000:Nat)/\(gZ (HM n) (GD fs) (aB Q) j) aC.next (Sg.mk [(al "n",Sl.val (V.i n)),(al "found",Sl.own K.I (zS (bS o b.1)))] [(al "many",Sl.val (V.i (ak pr))),(al "prime",Sl.val (V.i (ai pr)))]))) (by kernel_rfl) ?_,λb c=>aX (B:=(∀(ms:List Int),List.Perm ms b.1->(aR b.1< (64:Nat)->wx (λx1 E=>x1<=E) ms)->Q (V.l K.I ms))) (by kernel_rfl) ?_⟩⟩)⟩
 ·have :=Int.eq_one_of_dvd_one (by trivial) h2
  rw[this];exact oH _
 ·obtain rfl:=bC.mp hd;exact⟨kU _,FI _⟩
 ·obtain⟨F,s,s2⟩:=b
  obtain⟨p,m⟩:=pr
  obtain⟨ok,len⟩:=c
  dsimp only at ok len ⊢
  refine aj λq=>?_
  obtain⟨hp,w,g,sp⟩:=hF.pr _ (kh hx)
  refine q ?_
  obtain⟨m,rfl⟩:=mS w
  have g:m<=100:=dH.mp g
  have a:fs.take (j+1)=fs.take j++[(p,(m:Int))]:=by rw[gS,hx];rfl
  have H:iU (fs.take (j+1))=iU (fs.take j)*p^m:=by rw[a,HX];rfl
  have hle:cD (fs.take (j+1))=cD (fs.take j)*(m+1):=by rw[a,FX]
  have AK:iU (fs.take j)∣(n.natAbs:Int):=⟨iU (fs.drop j),by rw[← Qm,iJ];exact hF.e⟩
  have J: ∀x∈F,Sm 100 x:=λx hx=>by
   obtain⟨h1,h2⟩:=ok.only x hx
   exact v.of_le (nk (bb (by decide) h1) (t7 C (rF h2 AK)))
  have u:((F.map (sV p m)).flatten.length:Int)=cD (fs.take (j+1)):=by
   rw[U7,hle, ← len,jx];rfl
  have r: ∀{t:Int},t∈bD 0 1 (m+1)->t.toNat<=100:=λa=>aZ (Nat.le_of_lt_succ ((Int.toNat_lt (qg a).1).mpr (qg a).2)) g
  refine⟨sV p m,λx hx=>⟨?_,λt=>x*p^t.toNat,λt a=>⟨⟨(qg a).1,?_⟩,?_,rfl,rfl⟩,⟨rfl,rfl⟩,(Hq _ λt=>x*p^t).symm⟩,?_,((F.map (sV p m)).flatten,_,_),⟨by rw[H];exact ok.step hp w,u⟩,rfl⟩
  ·show bE (m+1)
   exact⟨bb (by decide) (jz (m+1)),oB (dH.mpr (je g)) (by decide)⟩
  ·exact jH sp (by decide) (aZ (r a) (by decide))
  ·exact Sm.ok (J x hx) ((sp.pow t.toNat).mono (show 100*t.toNat+1<=20000 from aZ (tS (MK 100 (r a)) 1) (by decide))) (by decide) (by decide)
  ·have h1:1<=cD (fs.take (j+1)):=JV _ λy c=>(hF.pr y (Ft c)).2.1
   have h2:1<=cD (fs.drop (j+1)):=JV _ λy c=>(hF.pr y (Mq c)).2.1
   have h3:cD fs=cD (fs.take (j+1))*cD (fs.drop (j+1)):=by rw[← KC,iJ]
   have h4:cD (fs.take (j+1))<=cD fs:=by rw[h3];exact bb (oF (dh _).symm) (gA h2 (bb (by decide) h1))
   have z:cD (fs.take (j+1))<=1000000:=fX.mp λz=>by
    have h5:=bb (bZ z) h4
    exact absurd (bb (rJ h5 h5 (by decide) (bb (by decide) h5)) (bb hF.len.2 (gA (dH.mpr hn) (by decide)))) (by decide)
   exact aZ (dH.mp (bb (oF u) z)) (by decide)
 ·obtain⟨F,s,s2⟩:=b
  obtain⟨ok,len⟩:=c
  rw[e9 (cR _)]at ok len
  dsimp only at ok len ⊢
  intro ms hp _
  rw[← hF.e]at ok
  refine L ms ⟨λd h1 h2=>hp.mem_iff.mpr (ok.all d h1 h2),λd hd=>ok.only d (hp.mem_iff.mp hd)⟩ ?_
  rw[hp.length_eq,len];exact hF.len.2
end
section
variable {G:aK} {d:Nat} {Γ:Fm} {S:St}
noncomputable abbrev mo:cp:=[("zdegree",cZ),("divisors",CT),("rat",jQ)]
noncomputable abbrev iy(a0 a1 a2:Int)(bs:List Int)(ks F:List (Int×Int))(t b x:Sl):Sg:=⟨[("f",.val (.l .I [a0,a1,a2])),("met",.dct ks),("found",.own .R F),("bottoms",.val (.l .I bs)),("top",t),("bottom",b),("x",x)],[]⟩
theorem wy{F:List (Int×Int)}{x:Int×Int}(h:(!F.contains x)=true):eN F x=F++[x]:=by
 unfold eN;rw[if_neg (by simpa using h)]
theorem pI{F:List (Int×Int)}{x:Int×Int}(h:(!F.contains x)=false):eN F x=F:=by
 unfold eN;rw[if_pos (by simpa using h)]
theorem qy{F:List (Int×Int)}{x y:Int×Int}:y∈eN F x↔y∈F\/y=x:=by
 unfold eN
 split
 ·next h=>
  have h:x∈F:=by simpa using h
  constructor
  ·exact .inl
  ·rintro(q|rfl)
   ·exact q
   ·exact h
 ·simp
theorem CA{F:List (Int×Int)}{x:Int×Int}:(eN F x).length<=F.length+1:=by
 unfold eN;split<;>simp
noncomputable def kC(F:List (Int×Int))(t b:Int):List (Int×Int):=eN (eN F (aL t b)) (aL (-t) b)
structure iR(x:Int×Int):Prop where
 n:b7 x
 s1:Sm 1500 x.1
 s2:Sm 1500 x.2
theorem Kk{t b:Int}(hb:b≠0)(st:Sm 100 t)(a:Sm 100 b):iR (aL t b):=by
 obtain⟨g,_,_,_,h⟩:=jj (t:=t) hb
 exact⟨h,st.ratN1.mono (by decide),a.ratN2.mono (by decide)⟩
structure x9(ys bs:List Int)(j:Nat)(F:List (Int×Int)):Prop where
 all: ∀t∈ys.take j,∀b∈bs,aL t b∈F/\aL (-t) b∈F
 ok: ∀x∈F,iR x
 len:F.length<=2*(j*bs.length)
structure qG(ys bs:List Int)(j:Nat)(t:Int)(i:Nat)(F:List (Int×Int)):Prop where
 all: ∀t∈ys.take j,∀b∈bs,aL t b∈F/\aL (-t) b∈F
 ok: ∀x∈F,iR x
 len:F.length<=2*(j*bs.length)+2*i
 now: ∀b∈bs.take i,aL t b∈F/\aL (-t) b∈F
theorem V1{a0 a1 a2 t b:Int}{F:List (Int×Int)}{bs:List Int}{e x:Sl}{R:aC->Sg->Prop}(hb:b≠0)(a:Sm 8000 b)(hl:F.length<9999999)
  (hR: ∀c d x',c=kC F t b->d=kC F t b->R .next (iy a0 a1 a2 bs c d (.val (.i t)) (.val (.i b)) x')):Bq (cy mo) 20 (au 72).scope.names ["found","met"] 4 (lp (fz (lp (au 72).body 2)) 0) (iy a0 a1 a2 bs F F (.val (.i t)) e x) (K.toV .I b) R:=aX (B:=((b≠0/\Sm 8000 b)/\(b≠0/\Sm 8000 b)/\aE (!M4 F (ai (aL t b),ak (aL t b))) (aR F<10000000/\aR F<10000000/\aE (!M4 (eN F (ai (aL t b),ak (aL t b))) (ai (aL (-t) b),ak (aL (-t) b))) (aR (eN F (ai (aL t b),ak (aL t b)))<10000000/\aR (F++[(ai (aL t b),ak (aL t b))])<10000000/\R aC.next (Sg.mk [("f",.val (.l .I [a0,a1,a2])),("met",Sl.dct (eN (eN F (ai (aL t b),ak (aL t b))) (ai (aL (-t) b),ak (aL (-t) b)))),("found",.own .R (F++[(ai (aL t b),ak (aL t b))]++[(ai (aL (-t) b),ak (aL (-t) b))])),("bottoms",.val (.l .I bs)),("top",.val (.i t)),("bottom",.val (.i b)),("x",.val (.t2 (V.i (aL (-t) b).1) (V.i (aL (-t) b).2)))] [])) (R aC.next (Sg.mk [("f",.val (.l .I [a0,a1,a2])),("met",Sl.dct (eN F (ai (aL t b),ak (aL t b)))),("found",.own .R (F++[(ai (aL t b),ak (aL t b))])),("bottoms",.val (.l .I bs)),("top",.val (.i t)),("bottom",.val (.i b)),("x",.val (.t2 (V.i (aL (-t) b).1) (V.i (aL (-t) b).2)))] []))) (aE (!M4 F (ai (aL (-t) b),ak (aL (-t) b))) (aR F<10000000/\aR F<10000000/\R aC.next (Sg.mk [("f",.val (.l .I [a0,a1,a2])),("met",Sl.dct (eN F (ai (aL (-t) b),ak (aL (-t) b)))),("found",.own .R (F++[(ai (aL (-t) b),ak (aL (-t) b))])),("bottoms",.val (.l .I bs)),("top",.val (.i t)),("bottom",.val (.i b)),("x",.val (.t2 (V.i (aL (-t) b).1) (V.i (aL (-t) b).2)))] [])) (R aC.next (Sg.mk [("f",.val (.l .I [a0,a1,a2])),("met",Sl.dct F),("found",.own .R F),("bottoms",.val (.l .I bs)),("top",.val (.i t)),("bottom",.val (.i b)),("x",.val (.t2 (V.i (aL (-t) b).1) (V.i (aL (-t) b).2)))] []))))) (by kernel_rfl) (by
 have l1:(eN F (aL t b)).length<=F.length+1:=CA
 refine⟨⟨hb,a⟩,⟨hb,a⟩,cw (λe1=>⟨by trivial,by trivial,cw (λe2=>⟨by show(eN F (aL t b)).length<_;trivial,by rw[fF];show F.length+1<_;trivial,hR _ _ _ rfl ?_⟩) (λe2=>hR _ _ _ ?_ ?_)⟩) (λe1=>cw (λe2=>⟨by trivial,by trivial,hR _ _ _ ?_ ?_⟩) (λe2=>hR _ _ _ ?_ ?_))⟩
 ·unfold kC;rw[wy (x:=aL (-t) b) e2,wy (x:=aL t b) e1]
 ·unfold kC;exact(pI (x:=aL (-t) b) e2).symm
 ·unfold kC;rw[pI (x:=aL (-t) b) e2,wy (x:=aL t b) e1]
 ·unfold kC;rw[pI (x:=aL t b) e1]
 ·unfold kC;rw[pI (x:=aL t b) e1,wy (x:=aL (-t) b) e2]
 ·unfold kC;rw[pI (x:=aL t b) e1,pI (x:=aL (-t) b) e2]
 ·unfold kC;rw[pI (x:=aL t b) e1,pI (x:=aL (-t) b) e2])
def Gj:aM:=λvs Q=>a1 (λv0=>f7 v0 λa0 a1 a2=>(a0≠0/\a0.natAbs<=10000000000/\a2≠0/\a2.natAbs<=4)/\∀xs:List (Int×Int),(∀h,h≠0->h∣a0->(h,1)∈xs)->(∀x∈xs,iR x)->xs.length<10000000->Q (.l .R xs)) vs
theorem yn{F:List (Int×Int)}{t b:Int}{x:Int×Int}(h:x∈F):x∈kC F t b:=qy.mpr (.inl (qy.mpr (.inl h)))
theorem qG.step{ys bs:List Int}{j i:Nat}{t b:Int}{F:List (Int×Int)}(h:qG ys bs j t i F)(hb:bs[i]? =some b)(f:b≠0)(st:Sm 100 t)(d:Sm 100 b):qG ys bs j t (i+1) (kC F t b):=by
 obtain⟨i1,i2,l,k⟩:=h
 refine⟨λg h' c a=>(i1 g h' c a).imp yn yn,λx hx=>?_,?_,λc a=>?_⟩
 ·rcases qy.mp hx with h|e
  ·rcases qy.mp h with h|e
   ·exact i2 x h
   ·rw[e];exact Kk f st d
  ·rw[e];exact Kk f st.neg d
 ·exact aZ (CA (F:=eN F (aL t b))) (aZ (je (aZ CA (je l))) (cR (2*(j*bs.length)+2*(i+1))))
 ·rw[gS,hb]at a
  rcases iI.mp a with h|h
  ·exact(k c h).imp yn yn
  ·rw[bC.mp h]
   exact⟨qy.mpr (.inl (qy.mpr (.inr rfl))),qy.mpr (.inr rfl)⟩
theorem qG.out{ys bs:List Int}{j:Nat}{t:Int}{F:List (Int×Int)}(h:qG ys bs j t bs.length F)(f:ys[j]? =some t):x9 ys bs (j+1) F:=by
 obtain⟨i1,i2,e,a⟩:=h
 rw[e9 (cR _)]at a
 refine⟨λd h' c b=>?_,i2,by simp only[Nat.add_mul,MF,Nat.mul_add];exact e⟩
 rw[gS,f]at h'
 rcases iI.mp h' with h|h
 ·exact i1 d h c b
 ·rw[bC.mp h];exact a c b
theorem Kj{n:Int}{zs:List Int}(hn:0<n)(hl:n<=10000000000)(h:kA n zs)(t:Int)(a:t∈zs):t≠0/\Sm 100 t:=by
 obtain⟨h1,h2⟩:=h.only t a
 have :=t7 hn h2
 exact⟨fJ h1,Sm.iff.mpr (by lia)⟩
theorem KE{n k:Nat}{m:Int}(h:(n:Int)*n<=m)(hm:m< ((k+1)*(k+1):Nat)):n<=k:=by
 rcases Nat.lt_or_ge k n with z|z
 ·have h2:(((k+1)*(k+1):Nat):Int)<=((n*n:Nat):Int):=dH.mpr (ER z z)
  simp only[jx n n]at h2
  exact absurd (gy hm (bb h2 h)) (zZ _)
 ·exact z
theorem TA(B:aP G){D:Nat}(hs:aG G D mo):ao G (D+1) "candidates" Gj:=eD B (i:=72) (by kernel_rfl) hs λvs Q h=>by
 apply cu h;intro v0 h0
 apply gY h0;intro a0 a1 a2 O
 refine aj λU=>?_
 obtain⟨⟨n0,l0,n2,l2⟩,M⟩:=O
 refine U ?_
 refine⟨rfl,λd Γ hd a u=>WS.at_ (k:=2) (by kernel_rfl) ((bW a hd (by rw[u]) (aX (A:=sg 72 mo ["found","met"] (gG (au 72) [.l .I [a0,a1,a2]]) ((au 72).body.take 2) (iq (λah=>∃bs:List Int,kA (a2.natAbs:Int) bs/\(bs.length:Int)*bs.length<=64/\ah=⟨[("f",.val (.l .I [a0,a1,a2])),("met",.dct []),("found",.own .I []),("bottoms",.val (.l .I bs)),("top",.any),("bottom",.any),("x",.any)],[]⟩) (aB Q))) (B:=(((↑(cq a2):Int)≠0/\cq (↑(cq a2):Int)<=10000000000)/\∀(ys:List Int),kA (↑(cq (↑(cq a2):Int)):Int) ys->(ys.length:Int)*(ys.length:Int)<=16*(↑(cq (↑(cq a2):Int)):Int)->(λah=>∃bs:List Int,kA (a2.natAbs:Int) bs/\(bs.length:Int)*bs.length<=64/\ah=⟨[("f",.val (.l .I [a0,a1,a2])),("met",.dct []),("found",.own .I []),("bottoms",.val (.l .I bs)),("top",.any),("bottom",.any),("x",.any)],[]⟩) (Sg.mk [("f",.val (.l .I [a0,a1,a2])),("met",Sl.dct []),("found",.own .I []),("bottoms",.val (.l .I ys)),("top",Sl.any),("bottom",Sl.any),("x",Sl.any)] []))) (by kernel_rfl) ⟨⟨by lia,by simp only[oz];lia⟩,λbs hb hl=>⟨bs,by simp only[oz]at hb;exact hb,by simp only[oz]at hl;lia,rfl⟩⟩)).mono λo ah q=>?_)⟩
 have hn:Γ.env.scope.names=(au 72).scope.names:=by rw[u]
 induction o with
 |ret v=>exact q
 |next=>
 obtain⟨bs,hb,r,rfl⟩:=q
 have E:bs.length<=8:=KE r (by decide)
 have H:1∈bs:=hb.all 1 (by decide) ⟨_,(kS _).symm⟩
 refine WS.weak (σ':=iy a0 a1 a2 bs [] [] .any .any .any) (λS L=>L.nilk (pre:=[_,_]) (post:=[_,_,_,_])) (WS.forrG (P:=cy mo) (N:=20) (Qi:=λk ys σ=>∃zs:List Int,(kA (a0.natAbs:Int) zs/\(zs.length:Int)*zs.length<=160000000000)/\iN .I zs (iy a0 a1 a2 bs [] [] .any .any .any) k ys σ) a hd hn (by kernel_rfl) (aX (B:=(((↑(cq a0):Int)≠0/\cq (↑(cq a0):Int)<=10000000000)/\∀(ys:List Int),kA (↑(cq (↑(cq a0):Int)):Int) ys->(ys.length:Int)*(ys.length:Int)<=16*(↑(cq (↑(cq a0):Int)):Int)->(λk ys σ=>∃zs:List Int,(kA (a0.natAbs:Int) zs/\(zs.length:Int)*zs.length<=160000000000)/\iN .I zs (iy a0 a1 a2 bs [] [] .any .any .any) k ys σ) K.I ys (Sg.mk [("f",.val (.l .I [a0,a1,a2])),("met",Sl.dct []),("found",.own .R []),("bottoms",.val (.l .I bs)),("top",.any),("bottom",.any),("x",.any)] []))) (by kernel_rfl) ⟨⟨by lia,by rw[oz];lia⟩,λys h1 h2=>⟨ys,⟨by simp only[oz]at h1;exact h1,by simp only[oz]at h2;lia⟩,.mk⟩⟩) λk' ys ah q=>?_)
 obtain⟨zs,⟨hz,f⟩,q⟩:=q
 cases q
 have z:zs.length<=400000:=KE f (by decide)
 have g:=Kj (by lia) (by lia) hz
 have s:=Kj (by lia) (by lia) hb
 refine⟨List (Int×Int)×Sl×Sl×Sl,λx=>iy a0 a1 a2 bs x.1 x.1 x.2.1 x.2.2.1 x.2.2.2,λj x=>x9 zs bs j x.1,⟨([],.any,.any,.any),⟨λt h=>(by cases h),λx h=>(by cases h),dx _⟩,rfl⟩,λj t x p hx=>⟨λσ=>σ=iy a0 a1 a2 bs x.1 x.1 (.val (.i t)) x.2.2.1 x.2.2.2,rfl,?_⟩,λx hx=>?_⟩
 ·rintro σ2 rfl
  obtain⟨F,s1,s2,s3⟩:=x
  have J:j<zs.length:=(gv.mp p).1
  obtain⟨t0,st⟩:=g t (kh p)
  refine WS.foQ (i:=72) (mt:=["found","met"]) (k:=0) (Qi:=iN .I bs (iy a0 a1 a2 bs F F (.val (.i t)) s2 s3)) a hd u (by kernel_rfl) (by kernel_rfl) (aX (B:=iN .I bs (iy a0 a1 a2 bs F F (.val (.i t)) s2 s3) .I bs (iy a0 a1 a2 bs F F (.val (.i t)) s2 s3)) (by kernel_rfl) .mk) λk' xs ah q=>?_
  cases q
  refine⟨List (Int×Int)×Sl×Sl,λy=>iy a0 a1 a2 bs y.1 y.1 (.val (.i t)) y.2.1 y.2.2,λi y=>qG zs bs j t i y.1,⟨(F,s2,s3),⟨hx.all,hx.ok,hx.len,λb h=>(by cases h)⟩,rfl⟩,λi b y e c=>xX (P:=cy mo) (N:=20) (mt:=["found","met"]) (m:=4) a hd hn ?_,λy c=>?_⟩
  ·obtain⟨F,s2,s3⟩:=y
   have hi:i<bs.length:=(gv.mp e).1
   obtain⟨C,w⟩:=s b (kh e)
   have hjb:j*bs.length<=400000*8:=ER (aZ (eP J) z) E
   exact V1 C (w.mono (by decide)) (by have :F.length<=2*(j*bs.length)+2*i:=c.len;dsimp only;lia) λkL F' x' e1 e2=>⟨(kC F t b,.val (.i b),x'),c.step e C st w,by simp only[e1,e2]⟩
  ·obtain⟨F,s2,s3⟩:=y
   refine bW a hd hn (aX (A:=sg 72 mo ["found","met"] (iy a0 a1 a2 bs F F (.val (.i t)) s2 s3) ((fz (lp (au 72).body 2)).drop 1) (gZ (λx:List (Int×Int)×Sl×Sl×Sl=>iy a0 a1 a2 bs x.1 x.1 x.2.1 x.2.2.1 x.2.2.2) (λj x=>x9 zs bs j x.1) (aB Q) j)) (B:=gZ (λx:List (Int×Int)×Sl×Sl×Sl=>iy a0 a1 a2 bs x.1 x.1 x.2.1 x.2.2.1 x.2.2.2) (λj x=>x9 zs bs j x.1) (aB Q) j .next (iy a0 a1 a2 bs F F (.val (.i t)) s2 s3)) (by kernel_rfl) ⟨(F,.val (.i t),s2,s3),qG.out c p,rfl⟩)
 ·obtain⟨F,s1,s2,s3⟩:=x
  obtain⟨h1,h2,h3⟩:=hx
  rw[e9 (cR _)]at h1
  dsimp only at h1 h2 h3
  refine bW a hd hn (aX (A:=sg 72 mo ["found","met"] (iy a0 a1 a2 bs F F s1 s2 s3) ((au 72).body.drop 3) (aB Q)) (B:=Q (.l .R F)) (by kernel_rfl) (M F (λh hn hd=>?_) h2 ?_))
  ·have e1: ∀n:Int,aL n 1=(n,1):=λn=>jP (by decide) ⟨p7,by simp⟩ (rfl)
   have hm:=h1 (h.natAbs:Int) (hz.all _ (by lia) (XZ.mpr hd |> Int.ofNat_dvd.mpr)) 1 H
   simp only[e1,e1]at hm
   rcases Int.natAbs_eq h with q|q
   ·rw[q];exact hm.1
   ·rw[q];exact hm.2
  ·have :=ER z E
   lia
end
section
variable {G:aK} {d:Nat} {Γ:Fm} {S:St}
theorem K.ofR(x:Int×Int):K.of .R (rV x)=some x:=rfl
def ON(p:List Int)(Q:V->Prop):Prop:=match p with
 | [_]=>Q (.l .I [])
 | [a0,a1,a2]=>Gj [.l .I [a0,a1,a2]] Q
 |_=>False
def z9:aM:=λvs Q=>a1 (λv0=>bq v0 λp=>ON p Q) vs
noncomputable abbrev nq:cp:=[("zdegree",cZ),("rat",jQ),("candidates",z9),("isolate",C6),("refine",B6),("rmul",r9),("rfloor",A7)]
theorem Kv{p q B:Int}{I:Nat×Int}:a8 p q B I↔q*(iv B I).1.1-p*(iv B I).1.2<0/\0<q*(iv B I).2.1-p*(iv B I).2.2:=by
 refine aj λe=>?_
 obtain⟨g,hg,e1,e2,_⟩:=fu I.1 I.2
 obtain⟨c,d,f1,f2,_⟩:=fu I.1 (I.2+2*B)
 refine e ?_
 unfold a8 iv
 generalize dy I.1 I.2=a at *
 generalize dy I.1 (I.2+2*B)=b at *
 have h1:q*I.2-p*2^I.1=g*(q*a.1-p*a.2):=by simp only[e2,e1];grind
 have h2:q*(I.2+2*B)-p*2^I.1=c*(q*b.1-p*b.2):=by simp only[f2,f1];grind
 simp only[h1,h2]
 constructor
 ·rintro⟨i,j⟩
  refine⟨l8.mp λz=>?_,l8.mp λz=>?_⟩
  ·have :=fW (show 0<=g by trivial) z;trivial
  ·have :=fW (show 0<=c by trivial) (show 0<= -(q*b.1-p*b.2) by trivial)
   simp only[k8]at this;omega
 ·rintro⟨i,j⟩
  exact⟨tV hg i,da d j⟩
theorem cJ.both{x y:Int×Int}{B:Int}{J:Iv}(hB:0<B)(h1:cJ x y B J)(h2:cJ y x B J):x=y:=by
 rcases h1 with⟨I,e,ok,i,n⟩|⟨k,m,hD,ez,e⟩
 ·rcases h2 with⟨d,a,f,b,c⟩|⟨k,m,hD,ez,a⟩
  ·rcases n with n|n
   ·exact n.symm
   ·refine absurd ?_ n
    rw[Kv, ← e,a, ← Kv];exact b
  ·rw[e]at a
   have :=(ik a)
   have :=Az (this.1.trans this.2.symm);lia
 ·rcases h2 with⟨d,a,f,b,c⟩|⟨k,m,hD,ez,a⟩
  ·rw[a]at e
   have :=(ik e)
   have :=Az (this.1.trans this.2.symm);lia
  ·rw[e]at a
   exact(ik a).1
noncomputable def rr(r:Int×Int)(l:Int):Int×Int:=aL ((aL (r.1*l) (r.2*1)).1.fdiv (aL (r.1*l) (r.2*1)).2) l
theorem Uf{h lead:Int}{r:Int×Int}(hC:Cl (h,1) lead r)(hl:0<lead):rr r lead=(h,1):=by
 refine aj λb=>?_
 obtain⟨p0,_,_,lo,hi⟩:=hC
 refine b ?_
 dsimp only at lo hi
 have hr:=p0
 refine aj λb=>?_
 obtain⟨g,e1,e2,hg,hn⟩:=jj (t:=r.1*lead) (c:=r.2*1) (by trivial)
 refine b ?_
 unfold rr
 generalize aL (r.1*lead) (r.2*1)=n at *
 have hg:=hg (by trivial)
 have d:g*(n.1-h*lead*n.2)=(r.1*1-h*r.2)*lead:=by
  simp only[Int.mul_sub, ← e1,show g*(h*lead*n.2)=h*lead*(g*n.2) by grind, ← e2];grind
 have e4:=fW (show 0<=r.1*1-h*r.2 by trivial) (show 0<=lead by trivial)
 have e5:(r.1*1-h*r.2)*(2*lead)=2*((r.1*1-h*r.2)*lead):=by grind
 have q0:0<=n.1-h*lead*n.2:=fX.mp λz=>by have :=tV hg z;trivial
 have q1:n.1-h*lead*n.2<n.2:=by
  refine MT (a:=g) ?_ (by trivial)
  simp only[d, ← e2];trivial
 have hf:n.1.fdiv n.2=h*lead:=by
  rw[MS _ (by have :=hn.pos;trivial)]
  exact((Int.ediv_emod_unique hn.pos (r:=n.1-h*lead*n.2)).mpr ⟨by rw[bT n.2];trivial,q0,q1⟩).1
 rw[hf]
 exact jP (by trivial) ⟨p7,by simp⟩ (by simp)
theorem NP{r:Int×Int}{lead:Int}(h0:0<r.2)(s1:Sm 1000 r.1)(hl:0<lead)(sl:Sm 41 lead):iR (rr r lead):=by
 obtain⟨_,_,_,_,h⟩:=jj (t:=(aL (r.1*lead) (r.2*1)).1.fdiv (aL (r.1*lead) (r.2*1)).2) (show lead≠0 by trivial)
 exact⟨h,(Sm.ratN1 (Sm.fdiv (Sm.ratN1 (s1.mul sl)))).mono (by decide),(Sm.ratN2 sl).mono (by decide)⟩
noncomputable abbrev mu(a0 a1 a2 l:Int)(x:List (Int×Int)×Sl×Sl):Sg:=⟨[("f",.val (.l .I [a0,a1,a2])),("found",.own .R x.1),("lead",.val (.i l)),("interval",x.2.1),("high",x.2.2)],[]⟩
structure o5(x y:Int×Int)(B:Int)(Is:List Iv)(j:Nat)(F:List (Int×Int)×Sl×Sl):Prop where
 len:F.1.length=j
 ok: ∀z∈F.1,iR z
 all: ∀J∈Is.take j,∀h:Int,((h,1)=x->cJ x y B J->(h,1)∈F.1)/\((h,1)=y->cJ y x B J->(h,1)∈F.1)
def Xk:aM:=λvs Q=>a1 (λv0=>m6 v0 λz_=>Q (.l .I [])) vs
theorem Nn(B:aP G){D:Nat}(hs:aG G D mo):ao G (D+1) "candidates" z9:=by
 have h1:ao G (D+1) "candidates" Xk:=bJ B (i:=72) (D:=D) (sp:=mo) [] (by kernel_rfl) hs λvs Q h=>by
  apply cu h;intro v h0
  apply qC h0;intro c hq
  exact⟨rfl,aX (A:=gd 72 mo [] [.l .I [c]] (aB Q)) (B:=Q (.l .I [])) (by kernel_rfl) hq⟩
 have h3:=TA B hs
 refine⟨h3.1,λvs Q d h hd=>?_⟩
 apply cu h;intro v h0
 apply bL h0;intro p hq
 try clear h0
 try clear h
 try clear h0
 try clear h
 revert hq
 revert p
 refine l4 ?_ ?_ ?_ ?_ ?_ ?_
 ·exact λh=>h.elim
 ·intro c hq
  exact h1.2 [.l .I [c]] Q d hq hd
 ·exact λa a h=>h.elim
 ·intro a0 a1 a2 hq
  exact h3.2 _ Q d hq hd
 ·exact λa a a a h=>h.elim
 ·exact λa a a a a a h=>h.elim
def Je(p:List Int)(Q:V->Prop):Prop:=match p with
 | [_]=>Q (.l .I [])
 | [c0,c1]=>(c1≠0/\Sm 8000 c1)/\Q (.l .R [((aL (-c0) c1).1,(aL (-c0) c1).2)])
 | [a0,a1,a2]=>∃(c:Int) (x y:Int×Int),(cv a0 a1 a2 c x y/\x.2*y.2<2^40/\a0≠0/\a2.natAbs<=4)/\∀xs:List (Int×Int),(∀z∈xs,iR z)->(∀h:Int,(h,1)=x\/(h,1)=y->(h,1)∈xs)->xs.length<10000000->Q (.l .R xs)
 |_=>False
def BI:aM:=λvs Q=>a1 (λv0=>bq v0 λp=>Je p Q) vs
inductive Du(a0 a1 a2 c:Int)(rx ry:Int×Int)(C:Int)(Is:List Iv):Prop
 |mk (kO:cv a0 a1 a2 c rx ry) (hC:Sm 104 C) (yV:0<C) (g2:Is.length<=1000) (g3: ∀J∈Is,cJ rx ry C J\/cJ ry rx C J) (g4: ∃J∈Is,cJ rx ry C J) (g5: ∃J∈Is,cJ ry rx C J)
noncomputable abbrev NV(x:Int×Int):Sl:=.val (.t2 (.i x.1) (.i x.2))
noncomputable abbrev Qu(x:Iv):Sl:=.val (.t2 (.t2 (.i x.1.1) (.i x.1.2)) (.t2 (.i x.2.1) (.i x.2.2)))
def CS(a0 a1 a2 A:Int)(J:Iv)(F:List (Int×Int))(N:Sg->Prop):Prop:=aq 2 A=true/\∃(c:Int) (z o:Int×Int) (B lead:Int),((cv a0 a1 a2 c z o/\((1:Int),2*A)=(1,2*lead))/\cJ z o B J/\(Sm 104 B/\0<B)/\0<lead/\lead<1099511627776)/\
 ∀a:Iv,Cl z lead a.2->((a.2.2≠0/\(1:Int)≠0)/\(Sm 2000 a.2.1/\Sm 2000 a.2.2)/\Sm 2000 A/\Sm 2000 1)/\((aL (a.2.1*A) (a.2.2*1)).2≠0/\bk (aL (a.2.1*A) (a.2.2*1)).2 8000=true)/\(A≠0/\Sm 8000 A)/\F.length<10000000/\N (mu a0 a1 a2 A (F++[rr a.2 A],Qu J,NV a.2))
theorem o5.step{z rx ry:Int×Int}{C A:Int}{Is:List Iv}{j:Nat}{J:Iv}{F:List (Int×Int)}{s1 s2 t1 t2:Sl}{r:Int×Int}(hi:o5 rx ry C Is j (F,s1,s2))(d:Is[j]? =some J)(hc:Cl z A r)(hA:0<A)(b:Sm 41 A)(g1:cJ rx ry C J->z=rx)(g2:cJ ry rx C J->z=ry):o5 rx ry C Is (j+1) (F++[rr r A],t1,t2):=by
 obtain⟨i1,i2,c⟩:=hi
 refine⟨by simp only[fF,i1];rfl,λw hw=>?_,λf a h=>?_⟩
 ·rcases iI.mp hw with hw|hw
  ·exact i2 w hw
  ·rw[bC.mp hw];exact NP hc.pos hc.s1 hA b
 ·rw[gS,d]at a
  rcases iI.mp a with a|a
  ·have q:=c f a h
   exact⟨λe g=>j8 _ (q.1 e g),λe g=>j8 _ (q.2 e g)⟩
  ·rw[bC.mp a]
   have fin:z=(h,1)->(h,1)∈F++[rr r A]:=λe=>by
    rw[e]at hc
    rw[Uf hc hA];exact iG _ (oH _)
   exact⟨λe g=>fin ((g1 g).trans e.symm),λe g=>fin ((g2 g).trans e.symm)⟩
theorem Rq{a0 a1 a2 c A C:Int}{rx ry:Int×Int}{Is:List Iv}{j:Nat}{J:Iv}{F:List (Int×Int)}{s1 s2:Sl}{Q:aC->Sg->Prop}(h:Du a0 a1 a2 c rx ry C Is)(hA:0<A)(a:Sm 41 A)(f:A<=4)(e:Is[j]? =some J)(hi:o5 rx ry C Is j (F,s1,s2)):
  CS a0 a1 a2 A J F λσ=>gZ (mu a0 a1 a2 A) (o5 rx ry C Is) Q j .next σ:=by
 refine aj λi=>?_
 obtain⟨kO,hC,yV,g2,g3,_,_⟩:=h
 refine i ?_
 have hl:F.length=j:=by obtain⟨i1,_,_⟩:=hi;exact i1
 have m:j<Is.length:=(gv.mp e).1
 have key: ∀{z o:Int×Int},cv a0 a1 a2 c z o->cJ z o C J->(cJ rx ry C J->z=rx)->(cJ ry rx C J->z=ry)->CS a0 a1 a2 A J F λσ=>gZ (mu a0 a1 a2 A) (o5 rx ry C Is) Q j .next σ:=λ{z o} n g q1 q2=>by
  refine⟨Sm.ok (Sm.lit (x:=2) (by decide)) a (by decide) (by decide),c,z,o,C,A,⟨⟨n,rfl⟩,g,⟨hC,yV⟩,hA,oB f (by decide)⟩,λb hc=>?_⟩
  have p0:b.2.2≠0:=fJ hc.pos
  refine aj λi=>?_
  obtain⟨_,_,_,_,d⟩:=jj (t:=b.2.1*A) (show b.2.2*1≠0 by rw[dh];exact p0)
  refine i ?_
  have k:Sm 64 1:=Sm.lit (by decide)
  exact⟨⟨⟨p0,by decide⟩,⟨hc.s1.mono (by decide),hc.s2.mono (by decide)⟩,a.mono (by decide),k.mono (by decide)⟩,⟨fJ d.pos,(Sm.ratN2 (hc.s2.mul k)).mono (by decide)⟩,⟨fJ hA,a.mono (by decide)⟩,by rw[hl];exact dr m (aZ g2 (by decide)),(F++[rr b.2 A],_,_),hi.step e hc hA a q1 q2,rfl⟩
 rcases g3 J (kh e)with g|g
 ·exact key kO g (λl=>rfl) λh=>g.both yV h
 ·exact key kO.swap g (λh=>g.both yV h) λl=>rfl
theorem TK{D:Nat}{a0 a1 a2 c:Int}{rx ry:Int×Int}{Q:V->Prop}(kO:cv a0 a1 a2 c rx ry)(s:rx.2*ry.2<2^40)(o:a2.natAbs<=4)(u: ∀xs:List (Int×Int),(∀z∈xs,iR z)->(∀h:Int,(h,1)=rx\/(h,1)=ry->(h,1)∈xs)->xs.length<10000000->Q (.l .R xs))
  {d:Nat} {Γ:Fm} (hd:D<=d) (f:bU G (cy nq) D) (v:Γ.env.scope=(au 71).scope):WS G d Γ ⟨[("f",.val (.l .I [a0,a1,a2])),("found",.own .I []),("lead",.val (.i (a2.natAbs:Int))),("interval",.any),("high",.any)],[]⟩ ((au 71).body.drop 3) (aB Q):=by
 have n:0< (a2.natAbs:Int):=FO.mpr (zX.mpr kO.a2)
 have r:(a2.natAbs:Int)<=4:=dH.mpr o
 have sl:Sm 41 (a2.natAbs:Int):=Sm.iff.mpr (by simp only[oz];exact d7 o (by decide))
 have hn:Γ.env.scope.names=(au 71).scope.names:=by rw[v]
 generalize(a2.natAbs:Int)=A at n r sl ⊢
 refine WS.weak (σ':=mu a0 a1 a2 A ([],.any,.any)) (λS t=>t.nilk (pre:=[_]) (post:=[_,_,_])) (WS.forrG (P:=cy nq) (N:=20) (Qi:=λk ys σ=>∃(B:Int) (Is:List Iv),Du a0 a1 a2 c rx ry B Is/\iN .W Is (mu a0 a1 a2 A ([],.any,.any)) k ys σ) f hd hn (by kernel_rfl) (aX (B:=(True/\∃c1 x y,(cv a0 a1 a2 c1 x y/\ak x*ak y< (1099511627776:Int))/\∀(B:Int) (Is:List Iv),Sm (104:Nat) B/\(0:Int)<B->aR Is<=(1000:Nat)->(∀(J:Iv),J∈Is->cJ x y B J\/cJ y x B J)->(∃J,J∈Is/\cJ x y B J)->(∃J,J∈Is/\cJ y x B J)->(λk ys σ=>∃(B:Int) (Is:List Iv),Du a0 a1 a2 c rx ry B Is/\iN .W Is (mu a0 a1 a2 A ([],.any,.any)) k ys σ) K.W Is (mu a0 a1 a2 A ([],.any,.any)))) (by kernel_rfl) ⟨trivial,c,rx,ry,⟨kO,s⟩,λB Is h1 h2 h3 h4 h5=>⟨B,Is,⟨kO,h1.1,h1.2,h2,h3,h4,h5⟩,.mk⟩⟩) λk' ys ah q=>?_)
 obtain⟨C,Is,p,q⟩:=q
 cases q
 refine⟨_,mu a0 a1 a2 A,o5 rx ry C Is,⟨([],.any,.any),⟨rfl,λz h=>(by cases h),λJ h=>(by cases h)⟩,rfl⟩,λj J F a hi=>xX (P:=cy nq) (N:=20) (mt:=["found"]) (m:=4) f hd hn (aX (B:=CS a0 a1 a2 A J F.1 λσ=>gZ (mu a0 a1 a2 A) (o5 rx ry C Is) (aB Q) j .next σ) (by kernel_rfl) (Rq p n sl r a hi)),λF hi=>?_⟩
 obtain⟨F,s1,s2⟩:=F
 obtain⟨i1,i2,b⟩:=hi
 obtain⟨_,_,_,g2,_,g4,g5⟩:=p
 rw[e9 (cR _)]at b
 refine bW f hd hn (aX (A:=sg 71 nq ["found"] (mu a0 a1 a2 A (F,s1,s2)) ((au 71).body.drop 4) (aB Q)) (B:=Q (.l .R F)) (by kernel_rfl) (u F i2 (λh hz=>?_) (i1▸d7 g2 (by decide))))
 rcases hz with e|e
 ·obtain⟨J,a,g⟩:=g4
  exact(b J a h).1 e g
 ·obtain⟨J,a,g⟩:=g5
  exact(b J a h).2 e g
theorem Q0{D:Nat}{a0 a1 a2:Int}{Q:V->Prop}(hq:Je [a0,a1,a2] Q):w4 G 71 nq D [.l .I [a0,a1,a2]] Q:=by
 refine aj λm=>?_
 obtain⟨c,rx,ry,⟨kO,j,n0,a⟩,b⟩:=hq
 refine m ?_
 refine⟨rfl,λd Γ hd f g=>WS.at_ (k:=3) (by kernel_rfl) ((bW f hd (by rw[g]) (aX (A:=sg 71 nq ["found"] (gG (au 71) [.l .I [a0,a1,a2]]) ((au 71).body.take 3) (iq (λah=>ah=⟨[("f",.val (.l .I [a0,a1,a2])),("found",.own .I []),("lead",.val (.i (a2.natAbs:Int))),("interval",.any),("high",.any)],[]⟩) (aB Q))) (B:=(aE (decide (max (↑(cq a0):Int) (↑(cq a2):Int)<=(10000000000:Int))) ((a0≠(0:Int)/\cq a0<=(10000000000:Nat)/\a2≠(0:Int)/\cq a2<=(4:Nat))/\∀(xs:List (Int×Int)),(∀(h:Int),h≠(0:Int)->(∃c,a0=h*c)->(h,(1:Int))∈xs)->(∀(x:Int×Int),x∈xs->iR x)->aR xs< (10000000:Nat)->Q (V.l K.R xs)) ((λah=>ah=⟨[("f",.val (.l .I [a0,a1,a2])),("found",.own .I []),("lead",.val (.i (a2.natAbs:Int))),("interval",.any),("high",.any)],[]⟩) (Sg.mk [("f",Sl.val (V.l K.I [a0,a1,a2])),("found",Sl.own K.I []),("lead",Sl.val (V.i (↑(cq a2):Int))),("interval",Sl.any),("high",Sl.any)] [])))) (by kernel_rfl) (cw (λe=>⟨⟨n0,?_,kO.a2,a⟩,λxs h1 h2 h3=>b xs h2 (λh hz=>?_) h3⟩) (λz_=>rfl)))).mono λo ah q=>?_)⟩
 ·have :=of_decide_eq_true e;lia
 ·have e0: ∃c,a0=h*c:=by
   rcases hz with e|e
   ·exact⟨c*ry.1,by simp only[kO.e0, ← e];grind⟩
   ·exact⟨c*rx.1,by simp only[kO.e0, ← e];grind⟩
  refine h1 h (λz=>n0 ?_) e0
  obtain⟨c,e⟩:=e0
  simp only[e,z,fV]
 induction o with
 |ret v=>exact q
 |next=>
  have q:ah=_:=q
  simp only[q];exact TK kO j a b hd f g
theorem Qv(B:aP G){D:Nat}(hs:aG G D nq):ao G (D+1) "tried_roots" BI:=eD B (i:=71) (by kernel_rfl) hs λvs Q h=>by
 apply cu h;intro v0 h0
 apply bL h0;intro p hq
 clear h0
 revert p
 refine l4 (λh=>h.elim) (λc hq=>?_) (λc0 c1 hq=>?_) (λa0 a1 a2 hq=>Q0 hq) (λa a a a h=>h.elim) (λa a a a a a h=>h.elim)
 ·exact⟨rfl,λd Γ hd b e=>bW b hd (by rw[e]) (aX (A:=gd 71 nq [] [.l .I [c]] (aB Q)) (B:=(Q (V.l K.I []))) (by kernel_rfl) hq)⟩
 ·exact⟨rfl,λd Γ hd b e=>bW b hd (by rw[e]) (aX (A:=gd 71 nq [] [.l .I [c0,c1]] (aB Q)) (B:=((c1≠(0:Int)/\Sm (8000:Nat) c1)/\Q (V.l K.R [(ai (aL (-c0) c1),ak (aL (-c0) c1))]))) (by kernel_rfl) hq)⟩
end
section
variable {G:aK} {d:Nat} {Γ:Fm} {S:St}
inductive d9:List Int->Int->List (Int×Int)->Prop
 |l0 {c:Int} (h:c≠0) (s:Sm 100 c):d9 [c] c []
 |l1 {c0 c1 c:Int} {x:Int×Int} (h:cM c0 c1 c x):d9 [c0,c1] c [x]
 |l2 {a0 a1 a2 c:Int} {x y:Int×Int} (h:cv a0 a1 a2 c x y):d9 [a0,a1,a2] c [x,y]
theorem cM.sm{c0 c1 c:Int}{x:Int×Int}(h:cM c0 c1 c x):Sm 100 c/\Sm 100 x.1/\Sm 100 x.2:=by
 have h0:=h.s0
 have h1:=h.s1
 rw[h.e0]at h0
 rw[h.e1]at h1
 have p:=h.nx.pos
 have h0:Sm 100 (c*x.1):=by have :=h0.neg;rw[tZ]at this;exact this
 exact⟨de (g:=x.2) (by trivial) (by rw[bT];exact h1),de h.ne h0,de h.ne h1⟩
theorem d9.shp{L:List Int}{c:Int}{rs:List (Int×Int)}(h:d9 L c rs):fP L:=by
 have m: ∀{x:Int},Sm 100 x->Sm 300 x:=λh=>h.mono (by decide)
 induction h with
 |l0 h s=>exact Cu (m s)
 |l1 h=>exact AW (m h.s0) (m h.s1)
 |l2 h=>exact HW (m h.s0) (m h.s1) (m h.s2)
theorem d9.len{L:List Int}{c:Int}{rs:List (Int×Int)}(h:d9 L c rs):L.length=rs.length+1:=by cases h<;>rfl
theorem d9.rt{L:List Int}{c:Int}{rs:List (Int×Int)}(h:d9 L c rs): ∀z∈rs,b7 z/\Sm 100 z.1/\Sm 100 z.2:=by
 induction h with
 |l0 h s=>exact λz h=>nomatch h
 |l1 h=>exact λz hz=>by obtain rfl:=bC.mp hz;exact⟨h.nx,h.sm.2⟩
 |l2 h=>
  intro z hz
  simp only[bz,gT,or_false]at hz
  rcases hz with rfl|rfl
  ·exact⟨h.nx,h.sm.2.2⟩
  ·exact⟨h.ny,h.swap.sm.2.2⟩
theorem d9.zero{L:List Int}{c:Int}{rs:List (Int×Int)}{z:Int×Int}(h:d9 L c rs)(a:b7 z):HL L z.1 z.2=0↔z∈rs:=by
 induction h with
 |l0 h s=>exact⟨λe=>absurd e h,λe=>nomatch e⟩
 | @l1 c0 c1 _ x h=>
  show F2 c0 c1 z.1 z.2=0↔_
  rw[h.F,bC]
  constructor
  ·intro e
   have :=(fq.mp e).resolve_left h.ne
   exact a.uniq h.nx (by rw[bT];lia)
  ·rintro rfl
   rw[bT z.2,kj,cP]
 | @l2 a0 a1 a2 _ x y h=>
  show F3 a0 a1 a2 z.1 z.2=0↔_
  simp only[bz,gT,or_false]
  refine⟨h.root a,?_⟩
  rintro(rfl|rfl)
  ·rw[h.F,bT z.2,kj,fV,cP]
  ·rw[h.F,bT z.2 z.1,kj,cP,cP]
theorem Vd{n:Int}:(aT n==0)=decide (n=0):=by
 rcases gU n 0 with q|q|q
 ·simp only[fY q,decide_eq_false (show ¬ n=0 by trivial)];rfl
 ·subst q;rfl
 ·simp only[gF q,decide_eq_false (show ¬ n=0 by trivial)];rfl
def AQ:aM:=λvs Q=>a2 (λv0 v1=>bq v0 λp=>du v1 λx=>(fP p/\Sm 2000 x.1/\Sm 2000 x.2)/\Q (.i (aT (HL p x.1 x.2)))) vs
theorem SZ(B:aP G){D:Nat}(hs:aG G D [("sign_of",jG)]):ao G (D+1) "value_sign" AQ:=by
 have h1:=G0 B hs
 have h2:=Bw B hs
 have h3:=CQ B hs
 refine⟨h1.1,λvs Q d h hd=>?_⟩
 apply bI h;intro v w h0
 apply bL h0;intro p h5
 apply dY h5;intro x a
 obtain⟨⟨⟨hl,hs⟩,s1,s2⟩,hq⟩:=a
 try clear h5
 try clear h0
 try clear h
 revert hq
 revert hs
 revert hl
 revert p
 refine l4 ?_ ?_ ?_ ?_ ?_ ?_
 ·intro hl _ _
  exact absurd hl (by decide)
 ·intro a0 _ hs hq
  refine h1.2 [.l .I [a0],rV x] Q d ⟨⟨⟨s1,s2⟩,hs _ (by simp)⟩,?_⟩ hd
  rw[show 0*x.1+a0*1=a0 by lia];exact hq
 ·intro c0 c1 _ hs hq
  refine h2.2 [.l .I [c0,c1],rV x] Q d ⟨⟨⟨s1,s2⟩,hs _ (by simp),hs _ (by simp)⟩,?_⟩ hd
  rw[show(0*x.1+c1*1)*x.1+c0*(1*x.2)=F2 c0 c1 x.1 x.2 by unfold F2;grind];exact hq
 ·intro a0 a1 a2 _ hs hq
  refine h3.2 [.l .I [a0,a1,a2],rV x] Q d ⟨⟨⟨s1,s2⟩,hs _ (by simp),hs _ (by simp),hs _ (by simp)⟩,?_⟩ hd
  rw[show((0*x.1+a2*1)*x.1+a1*(1*x.2))*x.1+a0*(1*x.2*x.2)=F3 a0 a1 a2 x.1 x.2 by unfold F3;grind];exact hq
 ·intro _ _ _ _ hl _ _
  exact absurd hl (by simp)
 ·intro _ _ _ _ _ _ hl _ _
  exact absurd hl (by simp)
def Bh:aM:=λvs Q=>a2 (λv0 v1=>bq v0 λp=>c5 v1 λb a=>∃(c:Int) (rs:List (Int×Int)),(d9 p c rs/\(-b,a)∈rs)/\∀L,d9 L c (rs.erase (-b,a))->Q (.l .I L)) vs
theorem cv.quo{a0 a1 a2 c:Int}{z o:Int×Int}(h:cv a0 a1 a2 c z o):(z.2≠0/\c*o.2≠0/\Sm 300 (-z.1)/\Sm 300 z.2/\Sm 300 (c*o.2)/\Sm 300 (-(c*o.1)))/\(a2=z.2*(c*o.2)/\a1=z.2* -(c*o.1)+ -z.1*(c*o.2)/\a0= -z.1* -(c*o.1))/\cM (-(c*o.1)) (c*o.2) c o:=by
 refine aj λf=>?_
 obtain⟨z1,z2,e,d⟩:=h.sm
 obtain⟨b,a,o3,o4⟩:=h.swap.sm
 refine f ?_
 have c2:c*o.2≠0:=bH h.ne (by have :=h.ny.pos;trivial)
 exact⟨⟨by have :=h.nx.pos;trivial,c2,e.neg.mono (by decide),d.mono (by decide),a.mono (by decide),b.neg.mono (by decide)⟩,⟨by rw[h.e2];grind,by rw[h.e1];grind,by rw[h.e0];grind⟩,⟨h.ne,h.ny,rfl,rfl,b.neg,a⟩⟩
theorem Pn{D:Nat}(h3:ao G D "zexact" nG)(h2:ao G D "zexact" Bs):ao G D "zexact" Bh:=by
 refine⟨h3.1,λvs Q d h hd=>?_⟩
 apply bI h;intro v w h0
 apply bL h0;intro p h5
 apply dn h5;intro a b m
 obtain⟨c,rs,⟨k,hm⟩,hq⟩:=m
 cases k with
 |l0 hp s=>cases hm
 | @l1 c0 c1 _ x hp=>
  have ex:=bC.mp hm
  rw[ex,M5]at hq
  have hb:a= -x.1/\b=x.2:=ex▸⟨(tZ a).symm,rfl⟩
  obtain⟨rfl,rfl⟩:=hb
  obtain⟨f,j,i⟩:=hp.sm
  exact h2.2 [.l .I [c0,c1],.l .I [-x.1,x.2]] Q d ⟨trivial,c,⟨by have :=hp.nx.pos;trivial,hp.ne,j.neg.mono (by decide),i.mono (by decide),f.mono (by decide)⟩,⟨by simp only[hp.e1,bT],by rw[hp.e0];grind⟩,hq _ (.l0 hp.ne f)⟩ hd
 | @l2 a0 a1 a2 _ x y hp=>
  have key: ∀z o,cv a0 a1 a2 c z o->(-a,b)=z->Q (.l .I [-(c*o.1),c*o.2])->gh G d "zexact" ([V.l .I [a0,a1,a2],.l .I [a,b]].map V.t) (CP Q):=λz o hp ex e=>by
   have hb:a= -z.1/\b=z.2:=ex▸⟨(tZ a).symm,rfl⟩
   obtain⟨rfl,rfl⟩:=hb
   obtain⟨q1,q2,_⟩:=hp.quo
   exact h3.2 [.l .I [a0,a1,a2],.l .I [-z.1,z.2]] Q d ⟨trivial,_,_,q1,q2,e⟩ hd
  by_cases ex:(-a,b)=x
  ·rw[ex,M5]at hq
   exact key x y hp ex (hq _ (.l1 hp.quo.2.2))
  ·have g:(-a,b)=y:=by
    simp only[bz,gT,or_false]at hm
    exact hm.resolve_left ex
   rw[List.erase_cons_tail (by simpa using λz=>ex z.symm),g,M5]at hq
   exact key y x hp.swap g (hq _ (.l1 hp.swap.quo.2.2))
theorem b7.at0{z:Int×Int}(a:b7 z)(h:z.1=0):z=(0,1):=by
 have hc:=a.cop
 rw[h,MM]at hc
 exact zY h ((p6 (bZ a.pos)).symm.trans (congrArg Nat.cast hc))
def CO:aM:=λvs Q=>a1 (λv0=>bq v0 λp=>∃(c:Int) (rs:List (Int×Int)),(d9 p c rs/\((0,1) ∉ rs)/\(∀x y,rs=[x,y]->x.2*y.2<2^40/\(c*(x.2*y.2)).natAbs<=4))/\∀xs:List (Int×Int),(∀z∈xs,iR z)->(∀h:Int,(h,1)∈rs->(h,1)∈xs)->xs.length<10000000->Q (.l .R xs)) vs
theorem Oy{D:Nat}(h:ao G D "tried_roots" BI):ao G D "tried_roots" CO:=⟨h.1,λvs Q d f hD=>by
 apply cu f;intro v h0
 apply bL h0;intro p i
 obtain⟨c,rs,⟨g,hz,hd⟩,hq⟩:=i
 cases g with
 |l0 hp s=>
  refine(h.2 [.l .I [c]] (λv=>v= .l .I []) d rfl hD).mono λt w=>?_
  obtain⟨v,e,rfl⟩:=w
  exact⟨.l .R [],e,hq [] (λz h=>nomatch h) (λh hm=>nomatch hm) (by decide)⟩
 | @l1 c0 c1 _ x hp=>
  have n1:c1≠0:=by rw[hp.e1];exact bH hp.ne (by have :=hp.nx.pos;lia)
  have e:aL (-c0) c1=x:=jP n1 hp.nx (by rw[hp.e0,hp.e1];grind)
  refine h.2 [.l .I [c0,c1]] Q d ⟨⟨n1,hp.s1.mono (by decide)⟩,hq _ (λz hz=>?_) (λh hm=>?_) (by show 1<10000000;decide)⟩ hD
  ·obtain rfl:=bC.mp hz
   show iR (aL (-c0) c1)
   rw[e];exact⟨hp.nx,hp.sm.2.1.mono (by decide),hp.sm.2.2.mono (by decide)⟩
  ·show _∈[aL (-c0) c1]
   rw[e];exact hm
 | @l2 a0 a1 a2 _ x y hp=>
  obtain⟨d1,j⟩:=hd x y rfl
  refine h.2 [.l .I [a0,a1,a2]] Q d ⟨c,x,y,⟨hp,d1,?_,by rw[hp.e2];exact j⟩,λxs h1 h2 h3=>hq xs h1 (λh hm=>h2 h ?_) h3⟩ hD
  ·rw[hp.e0]
   have a: ∀{z:Int×Int},b7 z->z∈[x,y]->z.1≠0:=λ{z} b hm h0=>by
    refine hz ?_
    have hc:=b.cop
    rw[h0]at hc
    have :z.2=1:=by have :=b.pos;simp at hc;lia
    simp only[← h0, ← this];exact hm
   exact bH hp.ne (bH (a hp.nx (by simp)) (a hp.ny (by simp)))
  ·simpa using hm⟩
noncomputable abbrev qz:cp:=[("tried_roots",CO),("zdegree",cZ),("value_sign",AQ),("zexact",Bh),("linear_of",se),("sorted_roots",Dn)]
noncomputable abbrev iz(f:List Int)(x:List Int×List K.M.D×Sl×Sl):Sg:=⟨[("f",.val (.l .I f)),("left",.val (.l .I x.1)),("found",.own .M x.2.1),("x",x.2.2.1),("many",x.2.2.2)],[]⟩
structure DE(rs cG:List (Int×Int))(F:List K.M.D):Prop where
 sub: ∀z∈cG,z∈rs
 fk: ∀m∈F,m.1∈rs/\m.1 ∉ cG
 nd:F.Pairwise λa b=>a.1≠b.1
 cov: ∀z∈rs,z∈cG\/∃n,(z,n)∈F
 len:F.length+cG.length<=3
structure qh(c:Int)(rs:List (Int×Int))(L:List Int)(F:List K.M.D)(eX:List (Int×Int)):Prop where
 p:d9 L c eX
 z:(0,1) ∉ eX
 i:DE rs eX F
 two: ∀x y,eX=[x,y]->rs=[x,y]
inductive AF(c:Int)(z:Int×Int)(cG:List (Int×Int))(k:Nat)(y:List Int×Int):Prop
 |mk (dw:List (Int×Int)) (p:d9 y.1 c dw) (h1: ∀w∈dw,w∈cG) (h2: ∀w∈cG,w=z\/w∈dw) (h3:(y.2=0/\dw=cG)\/(0<y.2/\z∈cG/\dw.length<cG.length)) (hk:k=dw.length)
inductive AC(c:Int)(rs eX xs:List (Int×Int))(j:Nat)(st:List Int×List K.M.D×Sl×Sl):Prop
 |mk (cG:List (Int×Int)) (p:d9 st.1 c cG) (i:DE rs cG st.2.1) (d: ∀w∈xs.take j,w ∉ cG) (s: ∀w∈cG,w∈eX)
theorem cv.at0{a0 a1 a2 c:Int}{x y:Int×Int}(h:cv a0 a1 a2 c x y)(e:a0=0): ∃o,cv a0 a1 a2 c (0,1) o/\∀w,w∈[x,y]↔w=(0,1)\/w=o:=by
 have one: ∀{z:Int×Int},b7 z->z.1=0->z=(0,1):=λa h0=>a.at0 h0
 have :=h.e0
 rw[e]at this
 rcases fq.mp ((fq.mp this.symm).resolve_left h.ne)with q|q
 ·have :=one h.nx q;subst this;exact⟨y,h,λw=>by simp⟩
 ·have :=one h.ny q;subst this;exact⟨x,h.swap,λw=>by simp[or_comm]⟩
theorem N7{a0 a1 a2 c:Int}{x y:Int×Int}(h:cv a0 a1 a2 c x y):(a0≠0->qh c [x,y] [a0,a1,a2] [] [x,y])/\(a0=0->a1≠0->∃o,qh c [x,y] [a1,a2] [((0,1),1)] [o])/\(a0=0->a1=0->qh c [x,y] [a2] [((0,1),2)] []):=by
 refine⟨λn0=>⟨.l2 h,λhm=>n0 ?_,⟨λz h=>h,(λm h=>nomatch h),.nil,λz h=>.inl h,mP rfl⟩,λx y e=>e⟩,λe0 n1=>?_,λe0 e1=>?_⟩
 ·rw[h.e0]
  simp only[bz,gT,or_false]at hm
  rcases hm with e|e<;>rw[← e]<;>simp
 ·obtain⟨o,h',hm⟩:=h.at0 e0
  have b:(0,1)≠o:=λe=>n1 (by rw[h'.e1, ← e];simp)
  refine⟨o,.l1 ⟨h'.ne,h'.ny,by rw[h'.e1];simp,by rw[h'.e2];simp,h'.s1,h'.s2⟩,by simpa using b,⟨λz hz=>?_,λm a=>?_,by simp,λz hz=>?_,by simp⟩,λx y e=>by cases e⟩
  ·obtain rfl:=bC.mp hz;exact(hm _).mpr (.inr rfl)
  ·obtain rfl:=bC.mp a;exact⟨(hm _).mpr (.inl rfl),by simpa using b⟩
  ·rcases(hm z).mp hz with rfl|rfl
   ·exact .inr ⟨1,by simp⟩
   ·exact .inl (by simp)
 ·obtain⟨o,h',hm⟩:=h.at0 e0
  have ho:o=(0,1):=by
   have :=h'.e1
   rw[e1]at this
   have h1:o.1=0:=by
    have h2:c*o.1=0:=by simp at this;lia
    exact(fq.mp h2).resolve_left h'.ne
   have hc:=h'.ny.cop
   have :=h'.ny.pos
   rw[h1]at hc
   have :o.2=1:=by simp at hc;lia
   exact zY h1 this
  subst ho
  have e2:a2=c:=by rw[h'.e2];simp
  refine⟨(e2).symm▸ .l0 h'.ne (e2▸h'.s2),by simp,⟨(λz h=>nomatch h),λm a=>?_,by simp,λz hz=>?_,by simp⟩,λx y e=>by cases e⟩
  ·obtain rfl:=bC.mp a;exact⟨(hm _).mpr (.inl rfl),by simp⟩
  ·have :z=(0,1):=by rcases(hm z).mp hz with h|h<;>exact h
   exact .inr ⟨2,by simp[this]⟩
theorem Vc{a0 a1 c:Int}{x:Int×Int}(h:cM a0 a1 c x):(a0≠0->qh c [x] [a0,a1] [] [x])/\(a0=0->qh c [x] [a1] [((0,1),1)] []):=by
 refine⟨λn0=>⟨.l1 h,λhm=>n0 ?_,⟨λz h=>h,(λm h=>nomatch h),.nil,λz h=>.inl h,mP rfl⟩,λx y e=>e⟩,λe0=>?_⟩
 ·rw[h.e0, ← bC.mp hm];simp
 ·have h1:x.1=0:=(fq.mp (Int.neg_eq_zero.mp (h.e0.symm.trans e0))).resolve_left h.ne
  have ho:x=(0,1):=h.nx.at0 h1
  subst ho
  have e2:a1=c:=by rw[h.e1];simp
  refine⟨(e2).symm▸ .l0 h.ne (e2▸h.s1),by simp,⟨(λz h=>nomatch h),λm a=>?_,by decide,λz hz=>.inr ⟨1,?_⟩,by decide⟩,λx y e=>by cases e⟩
  ·obtain rfl:=bC.mp a;exact⟨by simp,by simp⟩
  ·rw[bC.mp hz];simp
theorem O3{c:Int}{f:List Int}{rs cG eX xs:List (Int×Int)}{F:List K.M.D}{z:Int×Int}{j k:Nat}{R g:aC->Sg->Prop}{y:List Int×Int}(r:iR z)(d:DE rs cG F)(hd: ∀w∈xs.take j,w ∉ cG)(hs: ∀w∈cG,w∈eX)(hx:xs[j]? =some z)(A:AF c z cG k y)
  (h1: ∀k' s,k'<k->AF c z cG k' s->R .next (iz f (s.1,F,.val (rV z),.val (.i s.2)))) (h2: ∀st,AC c rs eX xs (j+1) st->g .next (iz f st)):lu (cy qz) 20 (au 70).scope.names ["found"] 4 (lp (fz (lp (au 70).body 3)) 1) (iz f (y.1,F,.val (rV z),.val (.i y.2))) (λah=>sg 70 qz ["found"] ah ((fz (lp (au 70).body 3)).drop 2) g) R:=aX (B:=(aE (decide ((↑y.1.length:Int)-1>0)) ((fP y.1/\Sm 2000 z.1/\Sm 2000 z.2)/\aE (aT (HL y.1 z.1 z.2)==0) (∃c rs,(d9 y.1 c rs/\(- -ai z,ak z)∈rs)/\∀(L:List Int),d9 L c (List.erase rs (- -ai z,ak z))->R aC.next (Sg.mk [("f",.val (.l .I f)),("left",.val (.l .I L)),("found",.own .M F),("x",.val (.t2 (V.i z.1) (V.i z.2))),("many",.val (.i (y.2+1)))] [])) (aE (decide (y.2>0)) (aR F<10000000/\g aC.next (Sg.mk [("f",.val (.l .I f)),("left",.val (.l .I y.1)),("found",.own .M (F++[((ai z,ak z),y.2)])),("x",.val (.t2 (V.i z.1) (V.i z.2))),("many",.val (.i y.2))] [])) (g aC.next (Sg.mk [("f",.val (.l .I f)),("left",.val (.l .I y.1)),("found",.own .M F),("x",.val (.t2 (V.i z.1) (V.i z.2))),("many",.val (.i y.2))] [])))) (aE (decide (y.2>0)) (aR F<10000000/\g aC.next (Sg.mk [("f",.val (.l .I f)),("left",.val (.l .I y.1)),("found",.own .M (F++[((ai z,ak z),y.2)])),("x",.val (.t2 (V.i z.1) (V.i z.2))),("many",.val (.i y.2))] [])) (g aC.next (Sg.mk [("f",.val (.l .I f)),("left",.val (.l .I y.1)),("found",.own .M F),("x",.val (.t2 (V.i z.1) (V.i z.2))),("many",.val (.i y.2))] []))))) (by kernel_rfl) (by
 obtain⟨L,m⟩:=y
 obtain⟨dw,p,i1,i2,o,hk⟩:=A
 dsimp only at p i1 i2 o hk ⊢
 have hlen:=d.len
 have C:xs.take (j+1)=xs.take j++[z]:=by simp only[gS,hx];rfl
 have fin:z ∉ dw->aE (decide (m>0)) (F.length<10000000/\g .next (iz f (L,F++[((z.1,z.2),m)],.val (rV z),.val (.i m)))) (g .next (iz f (L,F,.val (rV z),.val (.i m)))):=λhz=>by
  have v: ∀w∈xs.take (j+1),w ∉ dw:=λw hw=>by
   rw[C]at hw
   rcases iI.mp hw with hw|hw
   ·exact λh=>hd w hw (i1 w h)
   ·rw[bC.mp hw];exact hz
  refine cw (λe=>⟨d7 (aZ (ij _ _) hlen) (by decide),h2 _ ⟨dw,p,?_,v,λw hw=>hs w (i1 w hw)⟩⟩) (λe=>h2 _ ⟨dw,p,?_,v,λw hw=>hs w (i1 w hw)⟩)
  ·have hm:=of_decide_eq_true e
   obtain⟨_,x,hl⟩:=o.resolve_left λh=>fJ hm h.1
   refine⟨λw hw=>d.sub w (i1 w hw),λa ha=>?_,M3.mpr ⟨d.nd,by simp,λa ha b hb=>?_⟩,λw hw=>?_,by show(F++[_]).length+_<=3;rw[fF];exact aZ (iK (rm F.length 1 dw.length)) (aZ (pY hl F.length) hlen)⟩
   ·rcases iI.mp ha with ha|ha
    ·exact⟨(d.fk a ha).1,λh=>(d.fk a ha).2 (i1 _ h)⟩
    ·rw[bC.mp ha];exact⟨d.sub z x,hz⟩
   ·rw[bC.mp hb]
    exact λe=>(d.fk a ha).2 (by rw[e];exact x)
   ·rcases d.cov w hw with h|⟨n,h⟩
    ·rcases i2 w h with h|h
     ·exact .inr ⟨m,iG _ (by rw[h];exact oH _)⟩
     ·exact .inl h
    ·exact .inr ⟨n,j8 _ h⟩
  ·have hm:=of_decide_eq_false e
   obtain⟨_,hr⟩:=o.resolve_right λh=>hm h.1
   rw[hr];exact d
 refine cw (λe=>⟨⟨p.shp,r.s1.mono (by decide),r.s2.mono (by decide)⟩,?_⟩) (λe=>fin λhz=>?_)
 ·rw[Vd]
  refine cw (λe=>?_) (λe=>fin λhz=>of_decide_eq_false e ((p.zero r.n).mpr hz))
  have hz:=(p.zero r.n).mp (of_decide_eq_true e)
  have ez:(- -z.1,z.2)=z:=by rw[tZ]
  rw[ez]
  refine⟨c,dw,⟨p,hz⟩,λE t=>h1 (dw.erase z).length (E,m+1) ?_ ⟨dw.erase z,t,λw hw=>i1 w (List.mem_of_mem_erase hw),λw hw=>?_,.inr ⟨?_,i1 z hz,?_⟩,rfl⟩⟩
  ·exact hk▸(Yg hz).symm▸rn (M6 hz) pZ
  ·rcases i2 w hw with h|h
   ·exact .inl h
   ·by_cases q:w=z
    ·exact .inl q
    ·exact .inr ((List.mem_erase_of_ne q).mpr h)
  ·rcases o with h|h
   ·exact h.1.symm▸(by decide:(0:Int)<0+1)
   ·exact jf h.1 (rG m (by decide))
  ·have h5:=Yg hz
   have h6:=M6 hz
   have u:(dw.erase z).length<dw.length:=h5▸rn h6 pZ
   exact o.elim (λh=>h.2▸u) λh=>zC u h.2.2
 ·have :=of_decide_eq_false e
  have h4:=p.len
  have h6:=M6 hz
  lia)
def oN(f:List Int)(c:Int)(rs:List (Int×Int))(ah:Sg):Prop:=∃(L:List Int) (F:List K.M.D) (eX:List (Int×Int)),qh c rs L F eX/\∀S,aN ah S->aN (iz f (L,F,.any,.any)) S
def Do:aM:=λvs Q=>a1 (λv0=>bq v0 λf=>∃(c:Int) (rs:List (Int×Int)),(d9 f c rs/\rs≠ []/\∀x y,rs=[x,y]->x.2*y.2<2^40/\(c*(x.2*y.2)).natAbs<=4)/\∀ms:List K.M.D,ms.length<=3->(ms.Pairwise λa b=>dK a.1 b.1/\a.1≠b.1)->(∀m∈ms,m.1∈rs)->(∀h:Int,(h,1)∈rs->∃n,((h,1),n)∈ms)->Q (.l .M ms)) vs
theorem Ng(B:aP G){D:Nat}(hs:aG G D qz):ao G (D+1) "rational_roots" Do:=eD B (i:=70) (by kernel_rfl) hs λvs Q h=>by
 apply cu h;intro v0 h0
 apply bL h0;intro f gL
 obtain⟨c,rs,⟨hf,a6,g⟩,Z⟩:=gL
 refine⟨rfl,λd Γ hd u J=>?_⟩
 have hn:Γ.env.scope.names=(au 70).scope.names:=by rw[J]
 have rest: ∀(L:List Int) (F:List K.M.D) (eX:List (Int×Int)),qh c rs L F eX->WS G d Γ (iz f (L,F,.any,.any)) (lp (au 70).body 3::(au 70).body.drop 4) (aB Q):=λL F eX en=>by
  refine WS.forrG (P:=cy qz) (N:=20) (Qi:=λk ys σ=>∃xs:List (Int×Int),((∀z∈xs,iR z)/\(∀h:Int,(h,1)∈eX->(h,1)∈xs))/\iN .R xs (iz f (L,F,.any,.any)) k ys σ) u hd hn (by kernel_rfl) (aX (B:=(∃c t,(d9 ((L,F,Sl.any,Sl.any):List Int×List K.M.D×Sl×Sl).1 c t/\¬(0,1)∈t/\∀(x y:Int×Int),t=[x,y]->ak x*ak y< 1099511627776/\cq (c*(ak x*ak y))<=4)/\∀(xs:List (Int×Int)),(∀(z:Int×Int),z∈xs->iR z)->(∀(h:Int),(h,1)∈t->(h,1)∈xs)->aR xs<10000000->(λk ys σ=>∃xs:List (Int×Int),((∀z∈xs,iR z)/\(∀h:Int,(h,1)∈eX->(h,1)∈xs))/\iN .R xs (iz f (L,F,.any,.any)) k ys σ) K.R xs (Sg.mk [("f",.val (.l .I f)),("left",.val (.l .I ((L,F,Sl.any,Sl.any):List Int×List K.M.D×Sl×Sl).1)),("found",.own .M ((L,F,Sl.any,Sl.any):List Int×List K.M.D×Sl×Sl).2.1),("x",((L,F,Sl.any,Sl.any):List Int×List K.M.D×Sl×Sl).2.2.1),("many",((L,F,Sl.any,Sl.any):List Int×List K.M.D×Sl×Sl).2.2.2)] []))) (by kernel_rfl) ⟨c,eX,⟨en.p,en.z,λx y e=>g x y (en.two x y e)⟩,λxs g1 g2 g3=>⟨xs,⟨g1,g2⟩,.mk⟩⟩) λk' ys ah q=>?_
  obtain⟨xs,⟨g1,g2⟩,q⟩:=q
  cases q
  refine⟨_,iz f,AC c rs eX xs,⟨(L,F,.any,.any),⟨eX,en.p,en.i,(λw h=>by cases h),λw h=>h⟩,rfl⟩,λj z st hz E=>⟨λσ=>σ=iz f (st.1,st.2.1,.val (rV z),st.2.2.2),rfl,?_⟩,λst E=>?_⟩
  ·rintro σ2 rfl
   obtain⟨cG,p,i,C,H⟩:=E
   have O:=g1 z (kh hz)
   refine WS.whQ (i:=70) (mt:=["found"]) (k:=1) u hd J (by kernel_rfl) (by kernel_rfl) (aX (B:=lm 70 qz ["found"] (lp (fz (lp (au 70).body 3)) 1) ((fz (lp (au 70).body 3)).drop 2) (gZ (iz f) (AC c rs eX xs) (aB Q) j) (iz f (st.1,st.2.1,.val (rV z),.val (.i 0)))) (by kernel_rfl) ⟨List Int×Int,λy=>iz f (y.1,st.2.1,.val (rV z),.val (.i y.2)),AF c z cG,cG.length,(st.1,0),⟨cG,p,λw h=>h,λw h=>.inr h,.inl ⟨rfl,rfl⟩,rfl⟩,λS h=>h,λk y X=>O3 O i C H hz X (λk' y' hk hi=>km (st:=λy:List Int×Int=>iz f (y.1,st.2.1,.val (rV z),.val (.i y.2))) hk hi) λfi h=>⟨fi,h,rfl⟩⟩)
  ·obtain⟨cG,p,i,C,H⟩:=E
   rw[e9 (cR _)]at C
   refine bW u hd hn (aX (A:=sg 70 qz ["found"] (iz f st) ((au 70).body.drop 4) (aB Q)) (B:=((aR st.2.1<=1000/\∀(x:K.D K.M),x∈ai st.2->Sm 2000 x.1.1/\Sm 2000 x.1.2/\0<ak x.1)/\∀(ys:List (K.D K.M)),List.Perm ys st.2.1->wx (λa b=>dK a.1 b.1) ys->Q (V.l K.M ys))) (by kernel_rfl) ⟨⟨by have :=i.len;lia,λm hm=>?_⟩,λys hp r=>Z ys (by rw[hp.length_eq];have :=i.len;lia) ?_ (λm hm=>(i.fk m (hp.mem_iff.mp hm)).1) λh Y=>?_⟩)
   ·obtain⟨n1,W,U⟩:=hf.rt m.1 (i.fk m hm).1
    exact⟨W.mono (by decide),U.mono (by decide),n1.pos⟩
   ·exact r.and ((hp.symm.pairwise_iff λh=>ot h).mp i.nd)
   ·rcases i.cov _ Y with h1|⟨n,h1⟩
    ·exact absurd h1 (C _ (g2 h (H _ h1)))
    ·exact⟨n,hp.mem_iff.mpr h1⟩
 have go:sg 70 qz ["found"] (gG (au 70) [.l .I f]) ((au 70).body.take 3) (iq (oN f c rs) (aB Q)):=by
  cases hf with
  |l0 h s=>exact absurd rfl a6
  | @l1 a0 a1 _ x h=>
   obtain⟨e1,e2⟩:=Vc h
   have n1:a1≠0:=by rw[h.e1];exact bH h.ne (by have :=h.nx.pos;lia)
   refine aX (B:=(aE (a0==0) (aE (a1==0) (0<10000000/\(oN [a0,a1] c [x]) (Sg.mk [("f",.val (.l .I [a0,a1])),("left",.val (.l .I [])),("found",.own .M [((0,1),2)]),("x",Sl.any),("many",Sl.any)] [])) (0<10000000/\(oN [a0,a1] c [x]) (Sg.mk [("f",.val (.l .I [a0,a1])),("left",.val (.l .I [a1])),("found",.own .M [((0,1),1)]),("x",Sl.any),("many",Sl.any)] []))) ((oN [a0,a1] c [x]) (Sg.mk [("f",.val (.l .I [a0,a1])),("left",.val (.l .I [a0,a1])),("found",.own .I []),("x",Sl.any),("many",Sl.any)] [])))) (by kernel_rfl) (cw (λq0=>cw (λq1=>absurd (by simpa using q1) n1) λq1=>⟨by decide,_,_,_,e2 (by simpa using q0),λS h=>h⟩) λq0=>⟨_,_,_,e1 (by simpa using q0),λS h=>h.nilk (pre:=[_,_]) (post:=[_,_])⟩)
  | @l2 a0 a1 a2 _ x y h=>
   obtain⟨e1,e2,e3⟩:=N7 h
   refine aX (B:=(aE (a0==0) (aE (a1==0) (aE (a2==0) (0<10000000/\(oN [a0,a1,a2] c [x,y]) (Sg.mk [("f",.val (.l .I [a0,a1,a2])),("left",.val (.l .I [])),("found",.own .M [((0,1),3)]),("x",Sl.any),("many",Sl.any)] [])) (0<10000000/\(oN [a0,a1,a2] c [x,y]) (Sg.mk [("f",.val (.l .I [a0,a1,a2])),("left",.val (.l .I [a2])),("found",.own .M [((0,1),2)]),("x",Sl.any),("many",Sl.any)] []))) (0<10000000/\(oN [a0,a1,a2] c [x,y]) (Sg.mk [("f",.val (.l .I [a0,a1,a2])),("left",.val (.l .I [a1,a2])),("found",.own .M [((0,1),1)]),("x",Sl.any),("many",Sl.any)] []))) ((oN [a0,a1,a2] c [x,y]) (Sg.mk [("f",.val (.l .I [a0,a1,a2])),("left",.val (.l .I [a0,a1,a2])),("found",.own .I []),("x",Sl.any),("many",Sl.any)] [])))) (by kernel_rfl) (cw (λq0=>cw (λq1=>cw (λq2=>absurd (by simpa using q2) h.a2) λq2=>⟨by decide,_,_,_,e3 (by simpa using q0) (by simpa using q1),λS h=>h⟩) λq1=>⟨by decide,?_⟩) λq0=>⟨_,_,_,e1 (by simpa using q0),λS h=>h.nilk (pre:=[_,_]) (post:=[_,_])⟩)
   obtain⟨o,e⟩:=e2 (by simpa using q0) (by simpa using q1)
   exact⟨_,_,_,e,λS h=>h⟩
 refine WS.at_ (k:=3) (by kernel_rfl) ((bW u hd hn go).mono λo ah q=>?_)
 induction o with
 |ret v=>exact q
 |next=>
  obtain⟨L,F,eX,en,hw⟩:=q
  exact WS.weak hw (rest L F eX en)
end
section
variable {G:aK} {d:Nat} {Γ:Fm} {S:St}
def Ue(p:List Int)(Q:List Int->Prop):Prop:=match p with
 | [a,b]=>Q [a,b-a]
 | [a,b,c]=>Q [a,b-a,c-b-(b-a)]
 | [a,b,c,d]=>Q [a,b-a,c-b-(b-a),d-c-(c-b)-(c-b-(b-a))]
 |_=>False
def wO:aM:=λvs Q=>a1 (λv0=>bq v0 λp=>Ue p λl=>Q (.l .I l)) vs
theorem fv{n:Int}(h0: -5<=n)(h1:n<=100000):bE n:=by unfold bE;lia
noncomputable def ku:Nat->Int
 |0=>0
 |n+1=>ku n+n
theorem Ko: ∀n:Nat,2*ku n=n*(n-1)
 |0=>by decide
 |n+1=>by
  unfold ku
  simp only[FD,Ko n,show(((n+1:Nat):Int))=(n:Int)+1 by lia];grind
noncomputable def vD(a b c:Int)(p:Int):Int:=a+p*b+ku p.toNat*c
theorem Bv(a b c:Int)(j:Nat):vD a b c j+(b+j*c)=vD a b c ((j+1:Nat):Int):=by
 unfold vD
 rw[show((j+1:Nat):Int).toNat=j+1 by lia,show((j:Nat):Int).toNat=j by lia,show((j+1:Nat):Int)=(j:Int)+1 by lia,show ku (j+1)=ku j+j from rfl]
 generalize ku j=t
 generalize(j:Int)=x
 grind
noncomputable def pf(a b c n:Int):List Int:=(bD 0 1 (n+1).toNat).filter λp=>vD a b c p==0
def Rn(p:List Int)(n:Int)(Q:List Int->Prop):Prop:=match p with
 | [a,b]=>Q (pf a b 0 n)
 | [a,b,c]=>Q (pf a b c n)
 | [a,b,c,d]=>d=0/\Q (pf a b c n)
 |_=>False
def Cn:aM:=λvs Q=>a2 (λv0 v1=>bq v0 λp=>br v1 λn=>(0<=n/\n<=1000)/\Rn p n λl=>Q (.l .I l)) vs
noncomputable abbrev nh:cp:=[]
theorem AZ{N j:Nat}{p:Int}(h:(bD 0 1 N)[j]? =some p):p=j:=by
 unfold bD at h
 rw[jd]at h
 cases e:(kR N)[j]? with
 |none=>rw[e]at h;cases h
 |some k=>
  rw[e]at h
  have hk:k=j:=by
   have :=gv.mp e
   obtain⟨_,h2⟩:=this
   rw[List.getElem_range]at h2;exact h2.symm
  cases h
  lia
theorem Cq{a b c N:Int}{j:Nat}{p:Int}(h:(bD 0 1 (N+1).toNat)[j]? =some p):((bD 0 1 (N+1).toNat).take (j+1)).filter (λp=>vD a b c p==0)=((bD 0 1 (N+1).toNat).take j).filter (λp=>vD a b c p==0)++(if vD a b c p==0 then [p]else []):=by
 simp only[gS,h,List.filter_append]
 congr 1
 show gx _ [p]=_
 simp only[List.filter_cons];rfl
theorem AD{P:Int->Prop}(h0:P 0): ∀x∈[0],P x:=λx hx=>by rw[bC.mp hx];exact h0
theorem DI{P:Int->Prop}(h0:P 0)(h1:P 1): ∀x∈[0,1],P x:=λx hx=>by
 rcases bz.mp hx with rfl|hx
 ·exact h0
 ·rw[bC.mp hx];exact h1
theorem Kc{P:Int->Prop}(h0:P 0)(h1:P 1)(h2:P 2): ∀x∈[0,1,2],P x:=λx hx=>by
 rcases bz.mp hx with rfl|hx
 ·exact h0
 ·rcases bz.mp hx with rfl|hx
  ·exact h1
  ·rw[bC.mp hx];exact h2
theorem Qg(B:aP G):ao G 1 "first_differences" wO:=eD B (i:=79) (D:=0) (sp:=[]) (by kernel_rfl) (λp h=>nomatch h) λvs Q h=>by
 apply cu h;intro v0 h0
 apply bL h0;intro p hq
 have s0:bE 0:=fv (by decide) (by decide)
 have s1:bE 1:=fv (by decide) (by decide)
 have s2:bE 2:=fv (by decide) (by decide)
 have s3:bE 3:=fv (by decide) (by decide)
 try clear h0
 try clear h
 revert hq
 revert p
 refine l4 ?_ ?_ ?_ ?_ ?_ ?_
 ·exact λh=>h.elim
 ·exact λj h=>h.elim
 ·intro a b hq
  exact⟨rfl,λd Γ hd m n=>bW m hd (by rw[n]) (aX (A:=gd 79 [] ["found"] [.l .I [a,b]] (aB Q)) (B:=((0:Nat)< (10000000:Nat)/\bE 1/\(1:Nat)<=(1000000:Nat)/\∃F:K.D K.I->K.D K.I,(∀(x:K.D K.I),x∈[0]->a9 (cg [a,b] (x+1)) λg=>a9 (cg [a,b] x) λf=>K.of K.I (V.i (g-f))=some (F x)/\[(al "numbers",Sl.val (V.l K.I [a,b]))]=[(al "numbers",Sl.val (V.l K.I [a,b]))])/\(1:Nat)< (10000000:Nat)/\bE 0/\(0:Nat)<=(1000000:Nat)/\∃e:K.D K.I->K.D K.I,(∀(x:K.D K.I),x∈[]->a9 (cg [F 0] (x+1)) λg=>a9 (cg [F 0] x) λf=>K.of K.I (V.i (g-f))=some (e x)/\[(al "numbers",Sl.own K.I [F 0])]=[(al "numbers",Sl.own K.I [F 0])])/\Q (V.l K.I [a,F 0]))) (by kernel_rfl) ⟨by decide,s1,by decide,λj=>b-a,AD (sw rfl (sw rfl ⟨rfl,rfl⟩)),by decide,s0,by decide,λj=>0,(λx h=>nomatch h),hq⟩)⟩
 ·intro a b c hq
  exact⟨rfl,λd Γ hd m n=>bW m hd (by rw[n]) (aX (A:=gd 79 [] ["found"] [.l .I [a,b,c]] (aB Q)) (B:=((0:Nat)< (10000000:Nat)/\bE 2/\(2:Nat)<=(1000000:Nat)/\∃F:K.D K.I->K.D K.I,(∀(x:K.D K.I),x∈[0,1]->a9 (cg [a,b,c] (x+1)) λg=>a9 (cg [a,b,c] x) λf=>K.of K.I (V.i (g-f))=some (F x)/\[(al "numbers",Sl.val (V.l K.I [a,b,c]))]=[(al "numbers",Sl.val (V.l K.I [a,b,c]))])/\(1:Nat)< (10000000:Nat)/\bE 1/\(1:Nat)<=(1000000:Nat)/\∃e:K.D K.I->K.D K.I,(∀(x:K.D K.I),x∈[0]->a9 (cg [F 0,F 1] (x+1)) λg=>a9 (cg [F 0,F 1] x) λf=>K.of K.I (V.i (g-f))=some (e x)/\[(al "numbers",Sl.own K.I [F 0,F 1])]=[(al "numbers",Sl.own K.I [F 0,F 1])])/\(2:Nat)< (10000000:Nat)/\bE 0/\(0:Nat)<=(1000000:Nat)/\∃k:K.D K.I->K.D K.I,(∀(x:K.D K.I),x∈[]->a9 (cg [e 0] (x+1)) λg=>a9 (cg [e 0] x) λf=>K.of K.I (V.i (g-f))=some (k x)/\[(al "numbers",Sl.own K.I [e 0])]=[(al "numbers",Sl.own K.I [e 0])])/\Q (V.l K.I [a,F 0,e 0]))) (by kernel_rfl) ⟨by decide,s2,by decide,λx=>if x=0 then b-a else c-b,DI (sw rfl (sw rfl ⟨rfl,rfl⟩)) (sw rfl (sw rfl ⟨rfl,rfl⟩)),by decide,s1,by decide,λj=>c-b-(b-a),AD (sw rfl (sw rfl ⟨rfl,rfl⟩)),by decide,s0,by decide,λj=>0,(λx h=>nomatch h),hq⟩)⟩
 ·intro a b c d hq
  exact⟨rfl,λd' Γ hd m n=>bW m hd (by rw[n]) (aX (A:=gd 79 [] ["found"] [.l .I [a,b,c,d]] (aB Q)) (B:=((0:Nat)< (10000000:Nat)/\bE 3/\(3:Nat)<=(1000000:Nat)/\∃F:K.D K.I->K.D K.I,(∀(x:K.D K.I),x∈[0,1,2]->a9 (cg [a,b,c,d] (x+1)) λg=>a9 (cg [a,b,c,d] x) λf=>K.of K.I (V.i (g-f))=some (F x)/\[(al "numbers",Sl.val (V.l K.I [a,b,c,d]))]=[(al "numbers",Sl.val (V.l K.I [a,b,c,d]))])/\(1:Nat)< (10000000:Nat)/\bE 2/\(2:Nat)<=(1000000:Nat)/\∃e:K.D K.I->K.D K.I,(∀(x:K.D K.I),x∈[0,1]->a9 (cg [F 0,F 1,F 2] (x+1)) λg=>a9 (cg [F 0,F 1,F 2] x) λf=>K.of K.I (V.i (g-f))=some (e x)/\[(al "numbers",Sl.own K.I [F 0,F 1,F 2])]=[(al "numbers",Sl.own K.I [F 0,F 1,F 2])])/\(2:Nat)< (10000000:Nat)/\bE 1/\(1:Nat)<=(1000000:Nat)/\∃k:K.D K.I->K.D K.I,(∀(x:K.D K.I),x∈[0]->a9 (cg [e 0,e 1] (x+1)) λg=>a9 (cg [e 0,e 1] x) λf=>K.of K.I (V.i (g-f))=some (k x)/\[(al "numbers",Sl.own K.I [e 0,e 1])]=[(al "numbers",Sl.own K.I [e 0,e 1])])/\(3:Nat)< (10000000:Nat)/\bE 0/\(0:Nat)<=(1000000:Nat)/\∃o:K.D K.I->K.D K.I,(∀(x:K.D K.I),x∈[]->a9 (cg [k 0] (x+1)) λg=>a9 (cg [k 0] x) λf=>K.of K.I (V.i (g-f))=some (o x)/\[(al "numbers",Sl.own K.I [k 0])]=[(al "numbers",Sl.own K.I [k 0])])/\Q (V.l K.I [a,F 0,e 0,k 0]))) (by kernel_rfl) ⟨by decide,s3,by decide,λx=>if x=0 then b-a else if x=1 then c-b else d-c,Kc (sw rfl (sw rfl ⟨rfl,rfl⟩)) (sw rfl (sw rfl ⟨rfl,rfl⟩)) (sw rfl (sw rfl ⟨rfl,rfl⟩)),by decide,s2,by decide,λx=>if x=0 then c-b-(b-a)else d-c-(c-b),DI (sw rfl (sw rfl ⟨rfl,rfl⟩)) (sw rfl (sw rfl ⟨rfl,rfl⟩)),by decide,s1,by decide,λj=>d-c-(c-b)-(c-b-(b-a)),AD (sw rfl (sw rfl ⟨rfl,rfl⟩)),by decide,s0,by decide,λj=>0,(λx h=>nomatch h),hq⟩)⟩
 ·exact λj j j j j j h=>h.elim
noncomputable abbrev um(a b n:Int)(x:Int×Int×List Int×Sl×Sl):Sg:=⟨[("differences",.val (.l .I [a,b])),("last",.val (.i n)),("row",.own .I [x.1,x.2.1]),("found",.own .I x.2.2.1),("place",x.2.2.2.1),("at",x.2.2.2.2)],[]⟩
structure Bi(a b n:Int)(j:Nat)(x:Int×Int×List Int×Sl×Sl):Prop where
 h0:x.1=vD a b 0 j
 h1:x.2.1=b
 f:x.2.2.1=((bD 0 1 (n+1).toNat).take j).filter λp=>vD a b 0 p==0
theorem SD(B:aP G){a b n:Int}{Q:V->Prop}{Γ:Fm}{h:Nat}(yT:0<=n)(hn:n<=1000)(g:bU G (cy nh) 0)(m:Γ.env.scope=(au 80).scope)(hq:Q (.l .I (pf a b 0 n))):WS G h Γ (gG (au 80) [.l .I [a,b],.i n]) (au 80).body (aB Q):=by
 have s2:bE 1:=fv (by decide) (by decide)
 refine WS.foP (i:=80) (mt:=["found","row"]) (k:=1) g (dx _) m (by kernel_rfl) (by kernel_rfl) (aX (B:=(bE (n+1)/\qF 80 nh ["found","row"] (lp (au 80).body 1) ((au 80).body.drop 2) (aB Q) .I (bD 0 1 (n+1).toNat) (um a b n (a,b,[],.any,.any)))) (by kernel_rfl) ⟨fv (by lia) (by lia),_,um a b n,Bi a b n,(a,b,[],.any,.any),⟨?_,?_,rfl⟩,rfl,λj p x hp hx=>aX (B:=(aE (x.1==(0:Int)) (aR x.2.2.1< (10000000:Nat)/\bE (1:Int)/\((0:Int)<=(0:Int)/\(0:Int)< (2:Int))/\(gZ (um a b n) (Bi a b n) (aB Q) j) aC.next (Sg.mk [(al "differences",Sl.val (V.l K.I [a,b])),(al "last",Sl.val (V.i n)),(al "row",Sl.own K.I [x.1+x.2.1,x.2.1]),(al "found",Sl.own K.I (x.2.2.1++[p])),(al "place",Sl.val (V.i p)),(al "at",Sl.val (V.i (0:Int)))] [])) (bE (1:Int)/\((0:Int)<=(0:Int)/\(0:Int)< (2:Int))/\(gZ (um a b n) (Bi a b n) (aB Q) j) aC.next (Sg.mk [(al "differences",Sl.val (V.l K.I [a,b])),(al "last",Sl.val (V.i n)),(al "row",Sl.own K.I [x.1+x.2.1,x.2.1]),(al "found",Sl.own K.I x.2.2.1),(al "place",Sl.val (V.i p)),(al "at",Sl.val (V.i (0:Int)))] [])))) (by kernel_rfl) ?_,λx hx=>aX (A:=sg 80 nh ["found","row"] (um a b n x) ((au 80).body.drop 2) (aB Q)) (B:=Q (.l .I x.2.2.1)) (by kernel_rfl) ?_⟩)
 ·show a=vD a b 0 (0:Nat)
  simp[vD,ku]
 ·rfl
 ·obtain⟨r0,r1,F,s1,s3⟩:=x
  obtain⟨h0,h1,f⟩:=hx
  dsimp only at h0 h1 f ⊢
  have d:=AZ hp
  subst d
  have hF:=Cq (a:=a) (b:=b) (c:=0) hp
  rw[← f, ← h0]at hF
  have hl:F.length<10000000:=by
   rw[f]
   refine d7 (rA _ _) ?_
   rw[kX];unfold bD;rw[bi,oA];lia
  have e0:r0+r1=vD a b 0 ((j+1:Nat):Int):=by
   rw[h0,h1, ← Bv];simp
  refine cw (λe=>⟨hl,s2,⟨by decide,by decide⟩,(r0+r1,r1,F++[(j:Int)],_,_),⟨e0,h1,?_⟩,rfl⟩) (λe=>⟨s2,⟨by decide,by decide⟩,(r0+r1,r1,F,_,_),⟨e0,h1,?_⟩,rfl⟩)
  ·rw[e]at hF;exact hF.symm
  ·rw[e]at hF;simp at hF;simpa using hF.symm
 ·have :=hx.f
  rw[e9 (cR _)]at this
  rw[this];exact hq
noncomputable abbrev uH(a b c n:Int)(x:Int×Int×Int×List Int×Sl×Sl):Sg:=⟨[("differences",.val (.l .I [a,b,c])),("last",.val (.i n)),("row",.own .I [x.1,x.2.1,x.2.2.1]),("found",.own .I x.2.2.2.1),("place",x.2.2.2.2.1),("at",x.2.2.2.2.2)],[]⟩
structure A6(a b c n:Int)(j:Nat)(x:Int×Int×Int×List Int×Sl×Sl):Prop where
 h0:x.1=vD a b c j
 h1:x.2.1=b+j*c
 h2:x.2.2.1=c
 f:x.2.2.2.1=((bD 0 1 (n+1).toNat).take j).filter λp=>vD a b c p==0
theorem VZ(B:aP G){a b c n:Int}{Q:V->Prop}{Γ:Fm}{m:Nat}(yT:0<=n)(hn:n<=1000)(h:bU G (cy nh) 0)(o:Γ.env.scope=(au 80).scope)(hq:Q (.l .I (pf a b c n))):WS G m Γ (gG (au 80) [.l .I [a,b,c],.i n]) (au 80).body (aB Q):=by
 have s2:bE 2:=fv (by decide) (by decide)
 refine WS.foP (i:=80) (mt:=["found","row"]) (k:=1) h (dx _) o (by kernel_rfl) (by kernel_rfl) (aX (B:=(bE (n+1)/\qF 80 nh ["found","row"] (lp (au 80).body 1) ((au 80).body.drop 2) (aB Q) .I (bD 0 1 (n+1).toNat) (uH a b c n (a,b,c,[],.any,.any)))) (by kernel_rfl) ⟨fv (by lia) (by trivial),_,uH a b c n,A6 a b c n,(a,b,c,[],.any,.any),⟨?_,?_,?_,rfl⟩,rfl,λj p x hp hx=>aX (B:=(aE (x.1==(0:Int)) (aR x.2.2.2.1< (10000000:Nat)/\bE (2:Int)/\((0:Int)<=(0:Int)/\(0:Int)< (3:Int))/\((0:Int)<=(1:Int)/\(1:Int)< (3:Int))/\(gZ (uH a b c n) (A6 a b c n) (aB Q) j) aC.next (Sg.mk [(al "differences",Sl.val (V.l K.I [a,b,c])),(al "last",Sl.val (V.i n)),(al "row",Sl.own K.I [x.1+x.2.1,x.2.1+x.2.2.1,x.2.2.1]),(al "found",Sl.own K.I (x.2.2.2.1++[p])),(al "place",Sl.val (V.i p)),(al "at",Sl.val (V.i (1:Int)))] [])) (bE (2:Int)/\((0:Int)<=(0:Int)/\(0:Int)< (3:Int))/\((0:Int)<=(1:Int)/\(1:Int)< (3:Int))/\(gZ (uH a b c n) (A6 a b c n) (aB Q) j) aC.next (Sg.mk [(al "differences",Sl.val (V.l K.I [a,b,c])),(al "last",Sl.val (V.i n)),(al "row",Sl.own K.I [x.1+x.2.1,x.2.1+x.2.2.1,x.2.2.1]),(al "found",Sl.own K.I x.2.2.2.1),(al "place",Sl.val (V.i p)),(al "at",Sl.val (V.i (1:Int)))] [])))) (by kernel_rfl) ?_,λx hx=>aX (A:=sg 80 nh ["found","row"] (uH a b c n x) ((au 80).body.drop 2) (aB Q)) (B:=Q (.l .I x.2.2.2.1)) (by kernel_rfl) ?_⟩)
 ·show a=vD a b c (0:Nat)
  simp[vD,ku]
 ·show b=b+(0:Nat)*c;simp
 ·rfl
 ·obtain⟨r0,r1,d,F,s1,s3⟩:=x
  obtain⟨h0,h1,h2,f⟩:=hx
  dsimp only at h0 h1 h2 f ⊢
  have g:=AZ hp
  subst g
  have hF:=Cq (a:=a) (b:=b) (c:=c) hp
  simp only[← f, ← h0]at hF
  have hl:F.length<10000000:=by
   simp only[f]
   refine d7 (rA _ _) ?_
   simp only[kX];unfold bD;simp only[bi,oA];lia
  have e0:r0+r1=vD a b c ((j+1:Nat):Int):=by
   simp only[h0,h1, ← Bv]
  have e1:r1+d=b+((j+1:Nat):Int)*c:=by
   simp only[h1,h2,show((j+1:Nat):Int)=(j:Int)+1 by lia];grind
  refine cw (λe=>⟨hl,s2,⟨by decide,by decide⟩,⟨by decide,by decide⟩,(r0+r1,r1+d,d,F++[(j:Int)],_,_),⟨e0,e1,h2,?_⟩,rfl⟩) (λe=>⟨s2,⟨by decide,by decide⟩,⟨by decide,by decide⟩,(r0+r1,r1+d,d,F,_,_),⟨e0,e1,h2,?_⟩,rfl⟩)
  ·simp only[e]at hF;exact hF.symm
  ·simp only[e]at hF;simp at hF;simpa using hF.symm
 ·have :=hx.f
  simp only[e9 (cR _)]at this
  simp only[this];exact hq
noncomputable abbrev uw(a b c d n:Int)(x:Int×Int×Int×Int×List Int×Sl×Sl):Sg:=⟨[("differences",.val (.l .I [a,b,c,d])),("last",.val (.i n)),("row",.own .I [x.1,x.2.1,x.2.2.1,x.2.2.2.1]),("found",.own .I x.2.2.2.2.1),("place",x.2.2.2.2.2.1),("at",x.2.2.2.2.2.2)],[]⟩
structure B8(a b c d n:Int)(j:Nat)(x:Int×Int×Int×Int×List Int×Sl×Sl):Prop where
 h0:x.1=vD a b c j
 h1:x.2.1=b+j*c
 h2:x.2.2.1=c
 h3:x.2.2.2.1=0
 f:x.2.2.2.2.1=((bD 0 1 (n+1).toNat).take j).filter λp=>vD a b c p==0
theorem NG(B:aP G){a b c d n:Int}{Q:V->Prop}{Γ:Fm}{r:Nat}(yT:0<=n)(hn:n<=1000)(m:d=0)(q:bU G (cy nh) 0)(s:Γ.env.scope=(au 80).scope)(hq:Q (.l .I (pf a b c n))):WS G r Γ (gG (au 80) [.l .I [a,b,c,d],.i n]) (au 80).body (aB Q):=by
 have s2:bE 3:=fv (by decide) (by decide)
 refine WS.foP (i:=80) (mt:=["found","row"]) (k:=1) q (dx _) s (by kernel_rfl) (by kernel_rfl) (aX (B:=(bE (n+1)/\qF 80 nh ["found","row"] (lp (au 80).body 1) ((au 80).body.drop 2) (aB Q) .I (bD 0 1 (n+1).toNat) (uw a b c d n (a,b,c,d,[],.any,.any)))) (by kernel_rfl) ⟨fv (by lia) (by lia),_,uw a b c d n,B8 a b c d n,(a,b,c,d,[],.any,.any),⟨?_,?_,?_,?_,rfl⟩,rfl,λj p x hp hx=>aX (B:=(aE (x.1==(0:Int)) (aR x.2.2.2.2.1< (10000000:Nat)/\bE (3:Int)/\((0:Int)<=(0:Int)/\(0:Int)< (4:Int))/\((0:Int)<=(1:Int)/\(1:Int)< (4:Int))/\((0:Int)<=(2:Int)/\(2:Int)< (4:Int))/\(gZ (uw a b c d n) (B8 a b c d n) (aB Q) j) aC.next (Sg.mk [(al "differences",Sl.val (V.l K.I [a,b,c,d])),(al "last",Sl.val (V.i n)),(al "row",Sl.own K.I [x.1+x.2.1,x.2.1+x.2.2.1,x.2.2.1+x.2.2.2.1,x.2.2.2.1]),(al "found",Sl.own K.I (x.2.2.2.2.1++[p])),(al "place",Sl.val (V.i p)),(al "at",Sl.val (V.i (2:Int)))] [])) (bE (3:Int)/\((0:Int)<=(0:Int)/\(0:Int)< (4:Int))/\((0:Int)<=(1:Int)/\(1:Int)< (4:Int))/\((0:Int)<=(2:Int)/\(2:Int)< (4:Int))/\(gZ (uw a b c d n) (B8 a b c d n) (aB Q) j) aC.next (Sg.mk [(al "differences",Sl.val (V.l K.I [a,b,c,d])),(al "last",Sl.val (V.i n)),(al "row",Sl.own K.I [x.1+x.2.1,x.2.1+x.2.2.1,x.2.2.1+x.2.2.2.1,x.2.2.2.1]),(al "found",Sl.own K.I x.2.2.2.2.1),(al "place",Sl.val (V.i p)),(al "at",Sl.val (V.i (2:Int)))] [])))) (by kernel_rfl) ?_,λx hx=>aX (A:=sg 80 nh ["found","row"] (uw a b c d n x) ((au 80).body.drop 2) (aB Q)) (B:=Q (.l .I x.2.2.2.2.1)) (by kernel_rfl) ?_⟩)
 ·show a=vD a b c (0:Nat)
  simp[vD,ku]
 ·show b=b+(0:Nat)*c;simp
 ·rfl
 ·exact m
 ·obtain⟨r0,r1,g,h,F,s1,s3⟩:=x
  obtain⟨h0,h1,h2,h3,f⟩:=hx
  dsimp only at h0 h1 h2 h3 f ⊢
  have o:=AZ hp
  subst o
  have hF:=Cq (a:=a) (b:=b) (c:=c) hp
  simp only[← f, ← h0]at hF
  have hl:F.length<10000000:=by
   rw[f]
   refine d7 (rA _ _) ?_
   simp only[kX];unfold bD;simp only[bi,oA];lia
  have e0:r0+r1=vD a b c ((j+1:Nat):Int):=by
   simp only[h0,h1, ← Bv]
  have e1:r1+g=b+((j+1:Nat):Int)*c:=by
   simp only[h1,h2,show((j+1:Nat):Int)=(j:Int)+1 by lia];grind
  have e2:g+h=c:=by simp only[h2,h3];lia
  refine cw (λe=>⟨hl,s2,⟨by decide,by decide⟩,⟨by decide,by decide⟩,⟨by decide,by decide⟩,(r0+r1,r1+g,g+h,h,F++[(j:Int)],_,_),⟨e0,e1,e2,h3,?_⟩,rfl⟩) (λe=>⟨s2,⟨by decide,by decide⟩,⟨by decide,by decide⟩,⟨by decide,by decide⟩,(r0+r1,r1+g,g+h,h,F,_,_),⟨e0,e1,e2,h3,?_⟩,rfl⟩)
  ·simp only[e]at hF;exact hF.symm
  ·simp only[e]at hF;simp at hF;simpa using hF.symm
 ·have :=hx.f
  simp only[e9 (cR _)]at this
  simp only[this];exact hq
theorem S9(B:aP G):ao G 1 "zeros_on" Cn:=eD B (i:=80) (D:=0) (sp:=[]) (by kernel_rfl) (λp h=>nomatch h) λvs Q h=>by
 apply bI h;intro v0 v1 h0
 apply bL h0;intro p h1
 apply dI h1;intro n j
 obtain⟨⟨n0,n1⟩,hq⟩:=j
 try clear h1
 try clear h0
 try clear h
 revert hq
 revert p
 refine l4 ?_ ?_ ?_ ?_ ?_ ?_
 ·exact λh=>h.elim
 ·exact λe h=>h.elim
 ·intro a b hq
  exact⟨rfl,λd Γ hd f g=>SD B n0 n1 f g hq⟩
 ·intro a b c hq
  exact⟨rfl,λd Γ hd f g=>VZ B n0 n1 f g hq⟩
 ·intro a b c d hq
  exact⟨rfl,λd' Γ hd f g=>NG B n0 n1 hq.1 f g hq.2⟩
 ·exact λe e e e e e h=>h.elim
end
section
variable {G:aK} {d:Nat} {Γ:Fm} {S:St}
def Vy(e:Int)(p:List Int)(Q:List Int->Prop):Prop:=match p with
 | []=>Q []
 | [x]=>aq e x=true/\Q [e*x,x]
 | [x,y]=>(aq e x=true/\aq e y=true)/\Q [e*x,x+e*y,y]
 |_=>False
def Ae:aM:=λvs Q=>a2 (λv0 v1=>c5 v0 λe o=>bq v1 λp=>o=1/\Vy e p λl=>Q (.l .I l)) vs
def TJ(x:Int)(q:List Int)(Q:List Int->Prop):Prop:=match q with
 | []=>aE (x==0) (Q []) (Q [x])
 | [a,b]=>b≠0/\Q [x+a,b]
 | [a,b,c]=>c≠0/\Q [x+a,b,c]
 |_=>False
def Dm:aM:=λvs Q=>a2 (λv0 v1=>m6 v0 λx=>bq v1 λq=>TJ x q λl=>Q (.l .I l)) vs
theorem ly{k x:Int}(h:bk k 64=true):aq k x=true:=by unfold aq;rw[h];rfl
theorem Ci{k x:Int}(h:bk k 64=true):aq x k=true:=by unfold aq;rw[h,Bool.or_true];rfl
theorem Nq(e x:Int):mz [e,1] [x]=[e*x,x]:=by
 by_cases h:e=0
 ·subst h;simp[mz,jK,p8]
 ·simp[mz,jK,p8,h]
theorem Vs(e x y:Int):mz [e,1] [x,y]=[e*x,x+e*y,y]:=by
 by_cases h:e=0
 ·subst h;simp[mz,jK,p8]
 ·simp[mz,jK,p8,h,zQ]
theorem UJ{D:Nat}(h:ao G D "zmul" Bz):ao G D "zmul" Ae:=h.weak λvs Q h=>by
 apply bI h;intro v w h0
 apply dn h0;intro e o h1
 apply bL h1;intro p a
 obtain⟨ho,hq⟩:=a
 subst ho
 have two: ∀{P:Int->Prop},P e->P 1->∀x∈[e,1],P x:=λh1 h2 x hx=>by
  rcases bz.mp hx with rfl|hx
  ·exact h1
  ·rw[bC.mp hx];exact h2
 try clear h1
 try clear h0
 try clear h
 revert hq
 revert p
 refine l4 ?_ ?_ ?_ ?_ ?_ ?_
 ·intro hq
  exact⟨⟨⟨by show 2<=1000;decide,by show 0<=1000;decide⟩,λx z_ y h=>nomatch h⟩,hq⟩
 ·intro x hq
  refine⟨⟨⟨by show 2<=1000;decide,by show 1<=1000;decide⟩,two (λb hb=>?_) (λb hb=>ly (by decide))⟩,by rw[Nq];exact hq.2⟩
  rw[bC.mp hb];exact hq.1
 ·intro x y hq
  refine⟨⟨⟨by show 2<=1000;decide,by show 2<=1000;decide⟩,two (λb hb=>?_) (λb hb=>ly (by decide))⟩,by rw[Vs];exact hq.2⟩
  rcases bz.mp hb with rfl|hb
  ·exact hq.1.1
  ·rw[bC.mp hb];exact hq.1.2
 ·intro _ _ _ hq
  exact hq.elim
 ·intro _ _ _ _ hq
  exact hq.elim
 ·intro _ _ _ _ _ _ hq
  exact hq.elim
theorem Na{D:Nat}(h:ao G D "zadd" rR):ao G D "zadd" Dm:=h.weak λvs Q h=>by
 apply bI h;intro v w h0
 apply qC h0;intro x h1
 apply bL h1;intro p hq
 try clear h1
 try clear h0
 try clear h
 revert hq
 revert p
 refine l4 ?_ ?_ ?_ ?_ ?_ ?_
 ·intro hq
  refine⟨⟨by show 1<=1000;decide,by show 0<=1000;decide⟩,?_⟩
  show Q (.l .I (ct [x+0]))
  rw[iM,pg]
  by_cases e:x=0
  ·rw[if_pos e];exact hq.t (by simpa using e)
  ·rw[if_neg e];exact hq.f (by simpa using e)
 ·intro _ hq
  exact hq.elim
 ·intro a b hq
  refine⟨⟨by show 1<=1000;decide,by show 2<=1000;decide⟩,?_⟩
  show Q (.l .I (ct [x+a,0+b]))
  rw[lg,BA,if_neg hq.1];exact hq.2
 ·intro a b c hq
  refine⟨⟨by show 1<=1000;decide,by show 3<=1000;decide⟩,?_⟩
  show Q (.l .I (ct ([x+a,0+b]++[0+c])))
  rw[lg,lg,nJ,if_neg hq.1];exact hq.2
 ·intro _ _ _ _ hq
  exact hq.elim
 ·intro _ _ _ _ _ _ hq
  exact hq.elim
def TU(p:List Int)(Q:List Int->Prop):Prop:=match p with
 | [a,b]=>(b≠0/\Sm 200 a/\Sm 200 b)/\∀g c0 c1,dt g [a*2,b*2] [c0,c1]->Q [c0,c1]
 | [a,b,c]=>(Sm 200 a/\Sm 200 b/\Sm 200 c)/\(c=0->b≠0/\∀g c0 c1,dt g [a*6,b*6] [c0,c1]->Q [c0,c1])/\(c≠0->∀g c0 c1 c2,dt g [a*6,b*6-c*3,c*3] [c0,c1,c2]->Q [c0,c1,c2])
 | [a,b,c,d]=>(d=0/\c≠0/\Sm 200 a/\Sm 200 b/\Sm 200 c)/\∀g c0 c1 c2,dt g [a*24,b*24-c*12,c*12] [c0,c1,c2]->Q [c0,c1,c2]
 |_=>False
def yl:aM:=λvs Q=>a1 (λv0=>bq v0 λp=>TU p λl=>Q (.l .I l)) vs
noncomputable abbrev xL:cp:=[("zprimitive",sJ),("zadd",Dm),("zmul",Ae)]
theorem UI(B:aP G){D:Nat}(hs:aG G D xL):ao G (D+1) "told_by" yl:=eD B (i:=81) (by kernel_rfl) hs λvs Q h=>by
 apply cu h;intro v0 h0
 apply bL h0;intro p hq
 have sl: ∀{k:Nat},k<=64->bE (k:Int):=λh=>fv (by trivial) (by trivial)
 have s1:bE 1:=sl (k:=1) (by decide)
 have s2:bE 2:=sl (k:=2) (by decide)
 have s3:bE 3:=sl (k:=3) (by decide)
 have u:bE (-1):=fv (by decide) (by decide)
 have f: ∀{k x:Int},bk k 64=true->aq k x=true:=ly
 have j: ∀{k x:Int},bk k 64=true->aq x k=true:=Ci
 have s: ∀{x k:Int},k≠0->(x*k==0)=decide (x=0):=λ{x k} hk=>by
  by_cases e:x=0
  ·subst e;simp
  ·simp only[decide_eq_false e];exact beq_eq_false_iff_ne.mpr (bH e hk)
 have z: ∀x y:Int,x+ -1*y=x-y:=λx y=>by trivial
 have t: ∀{x k:Int},Sm 200 x->bk k 64=true->Sm 300 (x*k):=λh h2=>(h.mul (show Sm 64 _ from h2)).mono (by decide)
 try clear h0
 try clear h
 revert hq
 revert p
 refine l4 ?_ ?_ ?_ ?_ ?_ ?_
 ·exact λh=>h.elim
 ·exact λm h=>h.elim
 ·intro a b hq
  refine aj λo=>?_
  obtain⟨⟨hb,sa,r⟩,hq⟩:=hq
  refine o ?_
  refine⟨rfl,λd Γ hd n q=>bW n hd (by rw[q]) (aX (A:=gd 81 xL [] [.l .I [a,b]] (aB Q)) (B:=((bE (1:Int)/\bE (-1:Int)/\(-1:Int)=(-1:Int))/\aq (1:Int) (2:Int)=true/\aq b (2:Int)=true/\(1:Int)=(1:Int)/\aE (b*(2:Int)==(0:Int)) (aq (2:Int) (1:Int)=true/\aq a (2:Int)=true/\(1:Int)=(1:Int)/\aE (a*(2:Int)==(0:Int)) False False) (aq (2:Int) (1:Int)=true/\aq a (2:Int)=true/\(1:Int)=(1:Int)/\aq (0:Int) (b*(2:Int))=true/\b*(2:Int)≠(0:Int)/\(b*(2:Int)≠(0:Int)/\Sm (300:Nat) (b*(2:Int)))/\∀(g c0 c1:Int),dt g [a*(2:Int)+(0:Int)*(b*(2:Int)),b*(2:Int)] [c0,c1]->Q (V.l K.I [c0,c1])))) (by kernel_rfl) ⟨⟨s1,u,rfl⟩,f (by decide),j (by decide),rfl,?_⟩)⟩
  rw[s (by decide),decide_eq_false hb,fV,iM]
  have b2:b*2≠0:=bH hb (by decide)
  exact cw (λe=>by cases e) λm=>⟨f (by decide),j (by decide),rfl,f (by decide),b2,⟨b2,t r (by decide)⟩,hq⟩
 ·intro a b c hq
  refine aj λo=>?_
  obtain⟨⟨sa,r,sc⟩,F,E⟩:=hq
  refine o ?_
  refine⟨rfl,λd Γ hd n q=>bW n hd (by rw[q]) (aX (A:=gd 81 xL [] [.l .I [a,b,c]] (aB Q)) (B:=((bE (2:Int)/\bE (-1:Int)/\(-1:Int)=(-1:Int))/\aq (1:Int) (3:Int)=true/\aq c (3:Int)=true/\(1:Int)=(1:Int)/\aE (c*(3:Int)==(0:Int)) (aq (3:Int) (2:Int)=true/\aq b (6:Int)=true/\(1:Int)=(1:Int)/\aE (b*(6:Int)==(0:Int)) (aq (6:Int) (1:Int)=true/\aq a (6:Int)=true/\(1:Int)=(1:Int)/\aE (a*(6:Int)==(0:Int)) False False) (aq (6:Int) (1:Int)=true/\aq a (6:Int)=true/\(1:Int)=(1:Int)/\aq (0:Int) (b*(6:Int))=true/\b*(6:Int)≠(0:Int)/\(b*(6:Int)≠(0:Int)/\Sm (300:Nat) (b*(6:Int)))/\∀(g c0 c1:Int),dt g [a*(6:Int)+(0:Int)*(b*(6:Int)),b*(6:Int)] [c0,c1]->Q (V.l K.I [c0,c1]))) (aq (3:Int) (2:Int)=true/\aq b (6:Int)=true/\(1:Int)=(1:Int)/\aq (-1:Int) (c*(3:Int))=true/\c*(3:Int)≠(0:Int)/\aq (6:Int) (1:Int)=true/\aq a (6:Int)=true/\(1:Int)=(1:Int)/\(aq (0:Int) (b*(6:Int)+(-1:Int)*(c*(3:Int)))=true/\aq (0:Int) (c*(3:Int))=true)/\c*(3:Int)≠(0:Int)/\(c*(3:Int)≠(0:Int)/\Sm (300:Nat) (c*(3:Int)))/\∀(g c0 c1 c2:Int),dt g [a*(6:Int)+(0:Int)*(b*(6:Int)+(-1:Int)*(c*(3:Int))),b*(6:Int)+(-1:Int)*(c*(3:Int))+(0:Int)*(c*(3:Int)),c*(3:Int)] [c0,c1,c2]->Q (V.l K.I [c0,c1,c2])))) (by kernel_rfl) ⟨⟨s2,u,rfl⟩,f (by decide),j (by decide),rfl,?_⟩)⟩
  rw[s (by decide),s (by decide)]
  refine cw (λe=>?_) (λe=>?_)
  ·obtain⟨hb,hq⟩:=F (of_decide_eq_true e)
   have C:b*6≠0:=bH hb (by decide)
   rw[decide_eq_false hb,fV,iM]
   exact⟨f (by decide),j (by decide),rfl,cw (λe=>by cases e) λm=>⟨f (by decide),j (by decide),rfl,f (by decide),C,⟨C,t r (by decide)⟩,hq⟩⟩
  ·have hc:=of_decide_eq_false e
   have v:c*3≠0:=bH hc (by decide)
   have hq:=E hc
   rw[fV,fV,iM,iM,z]
   exact⟨f (by decide),j (by decide),rfl,f (by decide),v,f (by decide),j (by decide),rfl,⟨f (by decide),f (by decide)⟩,v,⟨v,t sc (by decide)⟩,hq⟩
 ·intro a b c d hq
  refine aj λo=>?_
  obtain⟨⟨rfl,hc,sa,r,sc⟩,hq⟩:=hq
  refine o ?_
  refine⟨rfl,λd Γ hd n q=>bW n hd (by rw[q]) (aX (A:=gd 81 xL [] [.l .I [a,b,c,0]] (aB Q)) (B:=((bE (3:Int)/\bE (-1:Int)/\(-1:Int)=(-1:Int))/\aq (1:Int) (4:Int)=true/\aq 0 (4:Int)=true/\(1:Int)=(1:Int)/\aE (0*(4:Int)==(0:Int)) (aq (4:Int) (3:Int)=true/\aq c (12:Int)=true/\(1:Int)=(1:Int)/\aE (c*(12:Int)==(0:Int)) (aq (12:Int) (2:Int)=true/\aq b (24:Int)=true/\(1:Int)=(1:Int)/\aE (b*(24:Int)==(0:Int)) (aq (24:Int) (1:Int)=true/\aq a (24:Int)=true/\(1:Int)=(1:Int)/\aE (a*(24:Int)==(0:Int)) False False) (aq (24:Int) (1:Int)=true/\aq a (24:Int)=true/\(1:Int)=(1:Int)/\aq (0:Int) (b*(24:Int))=true/\b*(24:Int)≠(0:Int)/\(b*(24:Int)≠(0:Int)/\Sm (300:Nat) (b*(24:Int)))/\∀(g c0 c1:Int),dt g [a*(24:Int)+(0:Int)*(b*(24:Int)),b*(24:Int)] [c0,c1]->Q (V.l K.I [c0,c1]))) (aq (12:Int) (2:Int)=true/\aq b (24:Int)=true/\(1:Int)=(1:Int)/\aq (-1:Int) (c*(12:Int))=true/\c*(12:Int)≠(0:Int)/\aq (24:Int) (1:Int)=true/\aq a (24:Int)=true/\(1:Int)=(1:Int)/\(aq (0:Int) (b*(24:Int)+(-1:Int)*(c*(12:Int)))=true/\aq (0:Int) (c*(12:Int))=true)/\c*(12:Int)≠(0:Int)/\(c*(12:Int)≠(0:Int)/\Sm (300:Nat) (c*(12:Int)))/\∀(g c0 c1 c2:Int),dt g [a*(24:Int)+(0:Int)*(b*(24:Int)+(-1:Int)*(c*(12:Int))),b*(24:Int)+(-1:Int)*(c*(12:Int))+(0:Int)*(c*(12:Int)),c*(12:Int)] [c0,c1,c2]->Q (V.l K.I [c0,c1,c2]))) (aq (4:Int) (3:Int)=true/\aq c (12:Int)=true/\(1:Int)=(1:Int)/\aq (-2:Int) (0*(4:Int))=true/\0*(4:Int)≠(0:Int)/\aq (12:Int) (2:Int)=true/\aq b (24:Int)=true/\(1:Int)=(1:Int)/\(aq (-1:Int) (c*(12:Int)+(-2:Int)*(0*(4:Int)))=true/\aq (-1:Int) (0*(4:Int))=true)/\0*(4:Int)≠(0:Int)/\aq (24:Int) (1:Int)=true/\aq a (24:Int)=true/\(1:Int)=(1:Int)/\False))) (by kernel_rfl) ⟨⟨s3,u,rfl⟩,f (by decide),j (by decide),rfl,cw (λm=>?_) (λe=>by cases e)⟩)⟩
  have w:c*12≠0:=bH hc (by decide)
  rw[s (x:=c) (by decide),decide_eq_false hc]
  refine⟨f (by decide),j (by decide),rfl,cw (λe=>by cases e) λm=>?_⟩
  rw[fV,fV,iM,iM,z]
  exact⟨f (by decide),j (by decide),rfl,f (by decide),w,f (by decide),j (by decide),rfl,⟨f (by decide),f (by decide)⟩,w,⟨w,t sc (by decide)⟩,hq⟩
 ·exact λm m m m m m h=>h.elim
end
section
variable {G:aK} {d:Nat} {Γ:Fm} {S:St}
structure jE(rs:List (Int×Int))(n:Int)(ys:List Int):Prop where
 asc:ys.Pairwise (· < ·)
 mem: ∀h,h∈ys↔(0<=h/\h<=n/\(h,1)∈rs)
structure sD(P0 P1:Int)(x:Int×Int):Prop where
 n:b7 x
 ne:P1≠0
 z:F2 P0 P1 x.1 x.2=0
structure oT(P0 P1 P2:Int)(x y:Int×Int):Prop where
 nx:b7 x
 ny:b7 y
 e: ∃C:Int,C≠0/\P0=C*(x.1*y.1)/\P1= -(C*(x.1*y.2+y.1*x.2))/\P2=C*(x.2*y.2)
 q:x.2*y.2<=4
def jC(ds:List Int)(rs:List (Int×Int)):Prop:=match ds with
 | [a,b]=>∃x,rs=[x]/\sD (a*2) (b*2) x
 | [a,b,c]=>(c=0/\∃x,rs=[x]/\sD (a*6) (b*6) x)\/(c≠0/\∃x y,rs=[x,y]/\oT (a*6) (b*6-c*3) (c*3) x y)
 | [a,b,c,d]=>d=0/\c≠0/\∃x y,rs=[x,y]/\oT (a*24) (b*24-c*12) (c*12) x y
 |_=>False
theorem sD.at{P0 P1:Int}{x:Int×Int}(h:sD P0 P1 x)(p:Int):F2 P0 P1 p 1=0↔(p,1)=x:=by
 have np:b7 (p,1):=⟨p7,by simp⟩
 have hz:=h.z
 unfold F2 at hz ⊢
 constructor
 ·intro e
  refine np.uniq h.n ?_
  show p*x.2=x.1*1
  have :P1*(p*x.2-x.1)=0:=by
   have e1:P1*(p*x.2-x.1)=(P1*p+P0*1)*x.2-(P1*x.1+P0*x.2):=by grind
   simp only[e1,e,hz];simp
  have :=(fq.mp this).resolve_left h.ne
  omega
 ·intro e;rw[← e]at hz;exact hz
theorem oT.F{P0 P1 P2:Int}{x y:Int×Int}(h:oT P0 P1 P2 x y): ∃C:Int,C≠0/\∀n d,F3 P0 P1 P2 n d=C*((x.2*n-x.1*d)*(y.2*n-y.1*d)):=by
 refine aj λa=>?_
 obtain⟨C,hC,e0,e1,e2⟩:=h.e
 refine a ?_
 exact⟨C,hC,λn d=>by unfold F3;simp only[e0,e1,e2];grind⟩
theorem oT.at{P0 P1 P2:Int}{x y:Int×Int}(h:oT P0 P1 P2 x y)(p:Int):F3 P0 P1 P2 p 1=0↔(p,1)∈[x,y]:=by
 have np:b7 (p,1):=⟨p7,by simp⟩
 obtain⟨C,hC,hF⟩:=h.F
 rw[hF]
 simp only[bz,gT,or_false]
 constructor
 ·intro e
  rcases fq.mp ((fq.mp e).resolve_left hC)with e|e
  ·exact .inl (np.uniq h.nx (by show p*x.2=x.1*1;rw[bT];lia))
  ·exact .inr (np.uniq h.ny (by show p*y.2=y.1*1;rw[bT];omega))
 ·rintro(e|e)
  ·rw[← e];simp
  ·rw[← e];simp
theorem Io(a b c p:Int)(hp:0<=p):6*vD a b c p=F3 (a*6) (b*6-c*3) (c*3) p 1:=by
 have h:=Ko p.toNat
 unfold vD F3
 rw[show((p.toNat:Nat):Int)=p by lia]at h
 have :6*(a+p*b+ku p.toNat*c)=6*a+6*(p*b)+3*(2*ku p.toNat)*c:=by grind
 simp only[this,h];grind
theorem RN{ds:List Int}{rs:List (Int×Int)}(h:jC ds rs): ∃a b c,(ds=[a,b]/\c=0\/ds=[a,b,c]\/ds=[a,b,c,0])/\∀p,0<=p->(vD a b c p=0↔(p,1)∈rs):=by
 have i: ∀{a b k:Int} {x:Int×Int},k≠0->sD (a*k) (b*k) x->∀p,vD a b 0 p=0↔(p,1)∈[x]:=λ{a b k x} hk h p=>by
  rw[bC, ← h.at p]
  have :F2 (a*k) (b*k) p 1=k*vD a b 0 p:=by unfold F2 vD;grind
  rw[this]
  exact⟨λe=>by rw[e,cP],λe=>(fq.mp e).resolve_left hk⟩
 match ds,h with
 | [a,b],f=>
  refine aj λg=>?_
  obtain⟨x,e,f⟩:=f
  refine g ?_
  rw[e];exact⟨a,b,0,.inl ⟨rfl,rfl⟩,λp j=>i (k:=2) (by decide) f p⟩
 | [a,b,c],.inl f=>
  refine aj λg=>?_
  obtain⟨e0,x,e,f⟩:=f
  refine g ?_
  rw[e,e0];exact⟨a,b,0,.inr (.inl rfl),λp j=>i (k:=6) (by decide) f p⟩
 | [a,b,c],.inr f=>
  refine aj λg=>?_
  obtain⟨n,x,y,e,f⟩:=f
  refine g ?_
  rw[e]
  refine⟨a,b,c,.inr (.inl rfl),λp hp=>?_⟩
  simp only[← f.at p, ← Io a b c p hp];lia
 | [a,b,c,d],f=>
  refine aj λg=>?_
  obtain⟨e0,n,x,y,e,f⟩:=f
  refine g ?_
  rw[e,e0]
  refine⟨a,b,c,.inr (.inr rfl),λp hp=>?_⟩
  have l:F3 (a*24) (b*24-c*12) (c*12) p 1=4*F3 (a*6) (b*6-c*3) (c*3) p 1:=by unfold F3;grind
  simp only[← f.at p,l, ← Io a b c p hp];lia
theorem Np{a b c n:Int}{rs:List (Int×Int)}(hn:0<=n)(h: ∀p,0<=p->(vD a b c p=0↔(p,1)∈rs)):jE rs n (pf a b c n):=by
 refine⟨(Yh _ ?_),λp=>?_⟩
 ·unfold bD
  rw[E6]
  exact Yi.imp λh=>by lia
 ·unfold pf
  rw[ke]
  constructor
  ·rintro⟨h1,h2⟩
   have h3:=qg h1
   exact⟨h3.1,by lia,(h p h3.1).mp (by simpa using h2)⟩
  ·rintro⟨h1,h2,h3⟩
   refine⟨?_,by simpa using(h p h1).mpr h3⟩
   unfold bD
   exact bF.mpr ⟨p.toNat,rh.mpr (by lia),by lia⟩
def Bk:aM:=λvs Q=>a2 (λv0 v1=>bq v0 λp=>br v1 λn=>∃rs,((0<=n/\n<=1000)/\jC p rs)/\∀ys,jE rs n ys->Q (.l .I ys)) vs
theorem Q3{D:Nat}(h:ao G D "zeros_on" Cn):ao G D "zeros_on" Bk:=h.weak λvs Q h=>by
 apply bI h;intro v w h0
 apply bL h0;intro p h1
 apply dI h1;intro n d
 obtain⟨rs,⟨⟨n0,n1⟩,hw⟩,hq⟩:=d
 obtain⟨a,b,c,e,hz⟩:=RN hw
 have hq:=hq _ (Np n0 hz)
 refine⟨⟨n0,n1⟩,?_⟩
 rcases e with⟨rfl,rfl⟩|rfl|rfl
 ·exact hq
 ·exact hq
 ·exact⟨rfl,hq⟩
end
section
variable {G:aK} {d:Nat} {Γ:Fm} {S:St}
theorem ln{k:Nat}{x y:Int}(h1:Sm k x)(h2:Sm k y):Sm (k+1) (x-y):=by
 rw[Sm.iff]at h1 h2 ⊢
 simp only[MI,Nat.mul_two,rE];exact d7 (FC x (-y)) (zJ h1 (by rw[jg];exact h2))
theorem PG{c:Int}{l:List Int}(h:aD (l.map (c* ·))=1):c=1\/c= -1:=by
 have e:=Il c l 0
 rw[cP]at e
 have e:aD (l.map (c* ·))=c.natAbs*aD l:=e
 rw[h]at e
 have :(c.natAbs:Int)∣1:=⟨_,e⟩
 have :=t7 (by decide) this
 rcases Nat.eq_zero_or_pos c.natAbs with z|z
 ·rw[z]at e;simp at e
 ·lia
theorem F5{P0 P1 g c0 c1:Int}{x:Int×Int}(h:sD P0 P1 x)(hp:dt g [P0,P1] [c0,c1])(s0:Sm 100 P0)(s1:Sm 100 P1): ∃c,cM c0 c1 c x:=by
 obtain⟨e0,e1,h1⟩:=hp.two
 have hz:=h.z
 simp only[e0,e1]at hz
 have hz:F2 c0 c1 x.1 x.2=0:=by
  have :F2 (g*c0) (g*c1) x.1 x.2=g*F2 c0 c1 x.1 x.2:=by unfold F2;grind
  simp only[this]at hz
  exact(fq.mp hz).resolve_left hp.ne
 obtain⟨c,q1,q0⟩:=Gs h.n hz
 simp only[e0]at s0
 simp only[e1]at s1
 exact⟨c,λz=>by simp only[z,cP]at q1;lia,h.n,by simp only[q0];grind,by simp only[q1,bT],de hp.ne s0,de hp.ne s1⟩
theorem Go{P0 P1 P2 g c0 c1 c2:Int}{x y:Int×Int}(h:oT P0 P1 P2 x y)(hp:dt g [P0,P1,P2] [c0,c1,c2])(s0:Sm 100 P0)(s1:Sm 100 P1)(s2:Sm 100 P2): ∃c,cv c0 c1 c2 c x y/\(c*(x.2*y.2)).natAbs<=4:=by
 refine aj λd=>?_
 obtain⟨e0,e1,e2,h2⟩:=hp.three
 obtain⟨C,hC,q0,q1,q2⟩:=h.e
 refine d ?_
 have l:=h.nx.pos
 have py:=h.ny.pos
 have hz:F3 c0 c1 c2 x.1 x.2=0:=by
  have :g*F3 c0 c1 c2 x.1 x.2=0:=by
   have e:g*F3 c0 c1 c2 x.1 x.2=F3 P0 P1 P2 x.1 x.2:=by unfold F3;simp only[e0,e1,e2];grind
   simp only[e];unfold F3;simp only[q0,q1,q2];grind
  exact(fq.mp this).resolve_left hp.ne
 refine aj λd=>?_
 obtain⟨f1,f2,t2,t1,t0⟩:=P6 h.nx hz
 refine d ?_
 have g2:g*f2=C*y.2:=by
  refine k9 (a:=x.2) (by trivial) ?_
  have :g*c2=C*(x.2*y.2):=by simp only[← e2,q2]
  simp only[show x.2*(g*f2)=g*(x.2*f2) by grind,this];grind
 have g1:g*f1= -(C*y.1):=by
  refine k9 (a:=x.2) (by trivial) ?_
  have :g*c1= -(C*(x.1*y.2+y.1*x.2)):=by simp only[← e1,q1]
  simp only[t1]at this
  simp only[show x.2*(g*f1)=g*(x.2*f1+ -x.1*f2)+x.1*(g*f2) by grind,this,g2];grind
 have m:F2 f1 f2 y.1 y.2=0:=by
  have :g*F2 f1 f2 y.1 y.2=0:=by
   unfold F2
   simp only[show g*(f2*y.1+f1*y.2)=(g*f2)*y.1+(g*f1)*y.2 by grind,g2,g1];grind
  exact(fq.mp this).resolve_left hp.ne
 refine aj λd=>?_
 obtain⟨c,k,r1⟩:=Gs h.ny m
 refine d ?_
 simp only[e0]at s0
 simp only[e1]at s1
 simp only[e2]at s2
 have j:c0=c*(x.1*y.1):=by simp only[t0,r1];grind
 have i:c1=c* -(x.1*y.2+y.1*x.2):=by simp only[t1,r1,k];grind
 have f:c2=c*(x.2*y.2):=by simp only[t2,k];grind
 have hc:=hp.cop
 have : [c0,c1,c2]=[x.1*y.1, -(x.1*y.2+y.1*x.2),x.2*y.2].map (c* ·):=by simp only[j,i,f];rfl
 rw[this]at hc
 have b:=PG hc
 have hq:=h.q
 have yD:=da l py
 refine⟨c,⟨by trivial,h.nx,h.ny,j,by simp only[i,k8],f,de hp.ne s0,de hp.ne s1,de hp.ne s2⟩,?_⟩
 rcases b with e|e<;>rw[e]<;>trivial
def Dc:aM:=λvs Q=>a1 (λv0=>bq v0 λp=>∃rs,(jC p rs/\∀x∈p,Sm 90 x)/\∀(c:Int) (L:List Int),d9 L c rs->rs≠ []->(∀x y,rs=[x,y]->x.2*y.2<2^40/\(c*(x.2*y.2)).natAbs<=4)->Q (.l .I L)) vs
theorem OL{D:Nat}(h:ao G D "told_by" yl):ao G D "told_by" Dc:=h.weak λvs Q h=>by
 apply cu h;intro v h0
 apply bL h0;intro p o
 obtain⟨rs,⟨hw,hs⟩,hq⟩:=o
 have f: ∀{x k:Int},Sm 90 x->bk k 5=true->Sm 95 (x*k):=λh1 h2=>h1.mul (show Sm 5 _ from h2)
 have m: ∀{j:Nat} {x:Int},j<=100->Sm j x->Sm 100 x:=λh q=>q.mono h
 have two: ∀{x y:Int×Int} {P0 P1 P2 c:Int},oT P0 P1 P2 x y->(c*(x.2*y.2)).natAbs<=4->∀z w,[x,y]=[z,w]->z.2*w.2<2^40/\(c*(z.2*w.2)).natAbs<=4:=λ{x y _ _ _ c} h hc z w e=>by
  injection e with e1 e2
  injection e2 with e2 _
  rw[← e1, ← e2]
  exact⟨by have :=h.q;lia,hc⟩
 try clear h0
 try clear h
 revert hs
 revert hw
 revert p
 refine l4 ?_ ?_ ?_ ?_ ?_ ?_
 ·exact λh l=>h.elim
 ·exact λl h l=>h.elim
 ·intro a b hw hs
  obtain⟨x,e,i⟩:=hw
  subst e
  have sa:=hs a (by simp)
  have n:=hs b (by simp)
  refine⟨⟨λz=>i.ne (by rw[z];rfl),sa.mono (by decide),n.mono (by decide)⟩,λg c0 c1 hp=>?_⟩
  obtain⟨c,hc⟩:=F5 i hp (m (by decide) (f sa (by decide))) (m (by decide) (f n (by decide)))
  exact hq c _ (.l1 hc) (by simp) (λz w e=>by simp at e)
 ·intro a b c hw hs
  have sa:=hs a (by simp)
  have n:=hs b (by simp)
  have sc:=hs c (by simp)
  refine⟨⟨sa.mono (by decide),n.mono (by decide),sc.mono (by decide)⟩,λez=>?_,λen g c0 c1 c2 hp=>?_⟩
  ·obtain⟨_,x,e,i⟩:=hw.resolve_right λz=>z.1 ez
   subst e
   refine⟨λz=>i.ne (by rw[z];rfl),λg c0 c1 hp=>?_⟩
   obtain⟨c,hc⟩:=F5 i hp (m (by decide) (f sa (by decide))) (m (by decide) (f n (by decide)))
   exact hq c _ (.l1 hc) (by simp) (λz w e=>by simp at e)
  ·obtain⟨_,x,y,e,i⟩:=hw.resolve_left λz=>en z.1
   subst e
   obtain⟨c,hc,h4⟩:=Go i hp (m (by decide) (f sa (by decide))) (m (by decide) (ln (f n (by decide)) (f sc (by decide)))) (m (by decide) (f sc (by decide)))
   exact hq c _ (.l2 hc) (by simp) (two i h4)
 ·intro a b c d hw hs
  have sa:=hs a (by simp)
  have n:=hs b (by simp)
  have sc:=hs c (by simp)
  refine aj λr=>?_
  obtain⟨ez,en,x,y,e,i⟩:=hw
  refine r ?_
  subst e
  refine⟨⟨ez,en,sa.mono (by decide),n.mono (by decide),sc.mono (by decide)⟩,λg c0 c1 c2 hp=>?_⟩
  obtain⟨c,hc,h4⟩:=Go i hp (m (by decide) (f sa (by decide))) (m (by decide) (ln (f n (by decide)) (f sc (by decide)))) (m (by decide) (f sc (by decide)))
  exact hq c _ (.l2 hc) (by simp) (two i h4)
 ·exact λl l l l l l h l=>h.elim
theorem VI{rs:List (Int×Int)}{n:Int}{ms:List K.M.D}(hp:ms.Pairwise λa b=>dK a.1 b.1/\a.1≠b.1)(g: ∀m∈ms,m.1∈rs)(f: ∀h:Int,(h,1)∈rs->∃k,((h,1),k)∈ms):jE rs n ((ms.filter λx=>x.1.2==1&&decide (0<=x.1.1)&&decide (x.1.1<=n)).map λx=>x.1.1):=by
 have key: ∀x:K.M.D,(x.1.2==1&&decide (0<=x.1.1)&&decide (x.1.1<=n))=true↔x.1.2=1/\0<=x.1.1/\x.1.1<=n:=λx=>by simp[and_assoc]
 refine⟨?_,λh=>?_⟩
 ·rw[E6,List.pairwise_filter]
  refine hp.imp λ{a b} d ha hb=>?_
  obtain⟨a1,_,_⟩:=(key a).mp ha
  obtain⟨c,_,_⟩:=(key b).mp hb
  obtain⟨h1,h2⟩:=d
  unfold dK at h1
  simp only[a1,c,dh,dh]at h1
  rcases Int.lt_or_eq_of_le h1 with q|q
  ·exact q
  ·exact absurd (zY q (a1.trans c.symm)) h2
 ·rw[bF]
  constructor
  ·rintro⟨x,hx,rfl⟩
   obtain⟨hx,hb⟩:=ke.mp hx
   obtain⟨c,b2,e⟩:=(key x).mp hb
   refine⟨b2,e,?_⟩
   have :=g x hx
   rw[show x.1=(x.1.1,1)from zY rfl c]at this
   exact this
  ·rintro⟨h1,h2,h3⟩
   obtain⟨k,hk⟩:=f h h3
   exact⟨((h,1),k),ke.mpr ⟨hk,(key _).mpr ⟨rfl,h1,h2⟩⟩,rfl⟩
noncomputable abbrev Bu:cp:=[("zeros_on",Bk),("told_by",Dc),("rational_roots",Do)]
def wV:aM:=λvs Q=>a2 (λv0 v1=>bq v0 λds=>br v1 λn=>True/\∃rs,((0<=n/\ds.length<=4)/\jC ds rs/\∀x∈ds,Sm 90 x)/\∀ys,jE rs n ys->Q (.l .I ys)) vs
theorem Qk(B:aP G){D:Nat}(hs:aG G D Bu):ao G (D+1) "whole_zeros" wV:=bJ B (i:=82) (D:=D) (sp:=Bu) [] (by kernel_rfl) hs λvs Q h=>by
 apply bI h;intro v0 v1 h0
 apply bL h0;intro ds h1
 apply dI h1;intro n g
 obtain⟨hp,hq⟩:=g
 refine⟨rfl,bP (α:=gd 82 Bu [] [(.l .I ds),(.i n)] (aB Q)) (β:=aE (decide (n<=1000)) (∃rs,((0<=n/\n<=1000)/\jC ds rs)/\∀(ys:List Int),jE rs n ys->Q (V.l K.I ys)) (aE (decide ((↑(aR ds):Int)>40)) (aq n (↑(aR ds):Int)=true/\aE (decide (n*(↑(aR ds):Int)<=10000000)) (∃rs,((0<=n/\n<=1000)/\jC ds rs)/\∀(ys:List Int),jE rs n ys->Q (V.l K.I ys)) (aE (decide ((↑(aR ds):Int)>40)) False (∃rs,(jC ds rs/\∀(x:Int),x∈ds->Sm (90:Nat) x)/\∀(c:Int) (L:List Int),d9 L c rs->rs≠ []->(∀(x y:Int×Int),rs=[x,y]->ak x*ak y< 1099511627776/\cq (c*(ak x*ak y))<=(4:Nat))->∃c rs,(d9 L c rs/\rs≠ []/\∀(x y:Int×Int),rs=[x,y]->ak x*ak y< 1099511627776/\cq (c*(ak x*ak y))<=(4:Nat))/\∀(ms:List (K.D K.M)),aR ms<=(3:Nat)->wx (λa b=>dK (ai a) (ai b)/\ai a≠ai b) ms->(∀(m:K.D K.M),m∈ms->ai m∈rs)->(∀(h:Int),(h,1)∈rs->∃n,((h,1),n)∈ms)->aR ms<=(1000000:Nat)/\∃B F,(∀(x:K.D K.M),x∈ms->aE (ak (ai x)==1) (aE (decide (0<=ai (ai x))) (decide (ai (ai x)<=n)=B x/\(B x=false->[(al "last",Sl.val (V.i n))]=[(al "last",Sl.val (V.i n))])/\(B x=true->K.of K.I (V.i (ai (ai x)))=some (F x)/\[(al "last",Sl.val (V.i n))]=[(al "last",Sl.val (V.i n))])) (false=B x/\(B x=false->[(al "last",Sl.val (V.i n))]=[(al "last",Sl.val (V.i n))])/\(B x=true->K.of K.I (V.i (ai (ai x)))=some (F x)/\[(al "last",Sl.val (V.i n))]=[(al "last",Sl.val (V.i n))]))) (false=B x/\(B x=false->[(al "last",Sl.val (V.i n))]=[(al "last",Sl.val (V.i n))])/\(B x=true->K.of K.I (V.i (ai (ai x)))=some (F x)/\[(al "last",Sl.val (V.i n))]=[(al "last",Sl.val (V.i n))])))/\Q (V.l K.I (bS F (gx B ms)))))) (aE (decide ((↑(aR ds):Int)>40)) False (∃rs,(jC ds rs/\∀(x:Int),x∈ds->Sm (90:Nat) x)/\∀(c:Int) (L:List Int),d9 L c rs->rs≠ []->(∀(x y:Int×Int),rs=[x,y]->ak x*ak y< 1099511627776/\cq (c*(ak x*ak y))<=(4:Nat))->∃c rs,(d9 L c rs/\rs≠ []/\∀(x y:Int×Int),rs=[x,y]->ak x*ak y< 1099511627776/\cq (c*(ak x*ak y))<=(4:Nat))/\∀(ms:List (K.D K.M)),aR ms<=(3:Nat)->wx (λa b=>dK (ai a) (ai b)/\ai a≠ai b) ms->(∀(m:K.D K.M),m∈ms->ai m∈rs)->(∀(h:Int),(h,1)∈rs->∃n,((h,1),n)∈ms)->aR ms<=(1000000:Nat)/\∃B F,(∀(x:K.D K.M),x∈ms->aE (ak (ai x)==1) (aE (decide (0<=ai (ai x))) (decide (ai (ai x)<=n)=B x/\(B x=false->[(al "last",Sl.val (V.i n))]=[(al "last",Sl.val (V.i n))])/\(B x=true->K.of K.I (V.i (ai (ai x)))=some (F x)/\[(al "last",Sl.val (V.i n))]=[(al "last",Sl.val (V.i n))])) (false=B x/\(B x=false->[(al "last",Sl.val (V.i n))]=[(al "last",Sl.val (V.i n))])/\(B x=true->K.of K.I (V.i (ai (ai x)))=some (F x)/\[(al "last",Sl.val (V.i n))]=[(al "last",Sl.val (V.i n))]))) (false=B x/\(B x=false->[(al "last",Sl.val (V.i n))]=[(al "last",Sl.val (V.i n))])/\(B x=true->K.of K.I (V.i (ai (ai x)))=some (F x)/\[(al "last",Sl.val (V.i n))]=[(al "last",Sl.val (V.i n))])))/\Q (V.l K.I (bS F (gx B ms))))))) (by kernel_rfl) ?_⟩
 refine aj λj=>?_
 obtain⟨rs,⟨⟨n0,hl⟩,hw,hs⟩,hq⟩:=hq
 refine j ?_
 have no:¬ ((ds.length:Int)>40):=by have :ds.length<=4:=hl;exact fX.mpr (by exact_mod_cast (show ds.length<=40 from aZ hl (by decide)))
 refine cw (λe=>⟨rs,⟨⟨n0,of_decide_eq_true e⟩,hw⟩,hq⟩) (λd=>cw (λe=>absurd (of_decide_eq_true e) no) (λd=>cw (λe=>absurd (of_decide_eq_true e) no) (λd=>⟨rs,⟨hw,hs⟩,λc L f k h2=>⟨c,rs,⟨f,k,h2⟩,λms h3 hp p o=>⟨aZ h3 (by decide),λx=>x.1.2==1&&decide (0<=x.1.1)&&decide (x.1.1<=n),λx=>x.1.1,λx hx=>?_,hq _ (VI hp p o)⟩⟩⟩)))
 refine cw (λe1=>cw (λe2=>⟨by dsimp only;simp only[e1,e2];rfl,λd=>rfl,λd=>⟨rfl,rfl⟩⟩) (λe2=>⟨by dsimp only;simp only[e1,e2];rfl,λd=>rfl,λd=>⟨rfl,rfl⟩⟩)) (λe1=>⟨by dsimp only;rw[e1];rfl,λd=>rfl,λd=>⟨rfl,rfl⟩⟩)
end
section
variable {G:aK} {d:Nat} {Γ:Fm} {S:St}
def Vn(p:List Int)(n:Int)(Q:Int->Prop):Prop:=match p with
 | [s0,s1]=>(Sm 110 s0/\Sm 110 s1/\Sm 110 n)/\Q (s1*n+s0)
 | [s0,s1,s2]=>(Sm 110 s0/\Sm 110 s1/\Sm 110 s2/\Sm 110 n)/\Q ((s2*n+s1)*n+s0)
 |_=>False
def BU:aM:=λvs Q=>a2 (λv0 v1=>bq v0 λp=>br v1 λn=>Vn p n λx=>Q (.i x)) vs
theorem WX{D:Nat}(h:ao G D "zat" Ct):ao G D "zat" BU:=h.weak λvs Q h=>by
 apply bI h;intro v w h0
 apply bL h0;intro p h1
 apply dI h1;intro n hq
 have e:Sm 110 0:=Sm.iff.mpr (by decide)
 try clear h1
 try clear h0
 try clear h
 revert hq
 revert p
 refine l4 ?_ ?_ ?_ ?_ ?_ ?_
 ·exact λh=>h.elim
 ·exact λb h=>h.elim
 ·intro s0 s1 c
  refine aj λd=>?_
  obtain⟨⟨t0,t1,a⟩,hq⟩:=c
  refine d ?_
  have e1:0*n+s1=s1:=by lia
  refine⟨λk=>?_,by show Q (.i ((0*n+s1)*n+s0));rw[e1];exact hq⟩
  match k with
  |0=>exact Sm.ok e a (by decide) (by decide)
  |1=>show aq (0*n+s1) n=true;rw[e1];exact Sm.ok t1 a (by decide) (by decide)
  |k+2=>
   rw[e9 (by simp)]
   show aq ((0*n+s1)*n+s0) n=true
   rw[e1];exact Sm.ok ((t1.mul a).add t0) a (by decide) (by decide)
 ·intro s0 s1 s2 c
  refine aj λd=>?_
  obtain⟨⟨t0,t1,t2,a⟩,hq⟩:=c
  refine d ?_
  have e1:0*n+s2=s2:=by lia
  refine⟨λk=>?_,by show Q (.i (((0*n+s2)*n+s1)*n+s0));rw[e1];exact hq⟩
  match k with
  |0=>exact Sm.ok e a (by decide) (by decide)
  |1=>show aq (0*n+s2) n=true;rw[e1];exact Sm.ok t2 a (by decide) (by decide)
  |2=>show aq ((0*n+s2)*n+s1) n=true;rw[e1];exact Sm.ok ((t2.mul a).add t1) a (by decide) (by decide)
  |k+3=>
   rw[e9 (by simp)]
   show aq (((0*n+s2)*n+s1)*n+s0) n=true
   rw[e1];exact Sm.ok ((((t2.mul a).add t1).mul a).add t0) a (by decide) (by decide)
 ·exact λb b b b h=>h.elim
 ·exact λb b b b b b h=>h.elim
inductive pk(S:Int)(k:Nat)(n:Int):Prop
 |mk (h1:1<=n) (h2:n<=2*S) (hk:k=(2*S+2-n).toNat)
theorem NC{a b p d B:Int}(hb:b≠0)(hd:0<d)(h:(a.natAbs:Int)< (b.natAbs:Int)*B)(hz:F2 a b p d=0):(p.natAbs:Int)<B*d:=by
 unfold F2 at hz
 have e:(b.natAbs:Int)*p.natAbs=(a.natAbs:Int)*d:=by
  have h1:b*p= -(a*d):=by trivial
  have h2:=congrArg cq h1
  simp only[jg,fH,fH]at h2
  have h3:(d.natAbs:Int)=d:=by trivial
  rw[← h3, ← jx, ← jx,h2]
 have hb0:0< (b.natAbs:Int):=by trivial
 refine MT (a:=(b.natAbs:Int)) ?_ (by trivial)
 rw[e, ← eK]
 exact Int.mul_lt_mul_of_pos_right h hd
theorem Vf{a b c p d B:Int}(hd:0<d)(hB:1<=B)(h:(b.natAbs:Int)*B+a.natAbs< (c.natAbs:Int)*(B*B))(hz:F3 a b c p d=0):(p.natAbs:Int)<B*d:=by
 unfold F3 at hz
 refine l8.mp λhu=>?_
 obtain⟨t,k⟩: ∃t,(p.natAbs:Int)=B*d+t:=⟨p.natAbs-B*d,by trivial⟩
 have le:(c.natAbs:Int)*(p.natAbs*p.natAbs)<=(b.natAbs:Int)*p.natAbs*d+(a.natAbs:Int)*d*d:=by
  have h1:c*p*p= -(b*p*d+a*d*d):=by trivial
  have h2:=congrArg cq h1
  have h3:=FC (b*p*d) (a*d*d)
  simp only[jg,fH,fH]at h2
  simp only[fH (b*p),fH b,fH (a*d),fH a]at h3
  have h4:(d.natAbs:Int)=d:=by trivial
  have h5:((c.natAbs*p.natAbs*p.natAbs:Nat):Int)<=((b.natAbs*p.natAbs*d.natAbs+a.natAbs*d.natAbs*d.natAbs:Nat):Int):=by simp only[h2];exact_mod_cast h3
  simp only[Int.natCast_add,jx,jx,jx,jx,jx,jx,h4,eK (c.natAbs:Int)]at h5
  exact h5
 have A0:0<=(a.natAbs:Int):=by trivial
 have B0:0<=(b.natAbs:Int):=by trivial
 have l:0<=(c.natAbs:Int):=by trivial
 generalize(p.natAbs:Int)=u at *
 generalize(a.natAbs:Int)=A at *
 generalize(b.natAbs:Int)=e at *
 generalize(c.natAbs:Int)=C at *
 have t0:0<=t:=by trivial
 have h5:e<C*B:=by
  refine Int.lt_of_mul_lt_mul_right (a:=B) ?_ (by trivial)
  simp only[eK];trivial
 have j:0<d*d*(C*(B*B)-(e*B+A)):=da (da hd hd) (by trivial)
 have i:0<=t*d*(C*B-e):=fW (fW t0 (by trivial)) (by trivial)
 have g:0<=t*d*(C*B):=fW (fW t0 (by trivial)) (by trivial)
 have f:0<=C*(t*t):=fW l (fW t0 t0)
 have id:C*(u*u)-(e*u*d+A*d*d)=d*d*(C*(B*B)-(e*B+A))+t*d*(C*B-e)+t*d*(C*B)+C*(t*t):=by simp only[k];grind
 exact l8.mpr (Int.lt_of_sub_pos (id▸M7 (M7 (M7 j i) g) f)) le
def NA(f:List Int)(Q:Int->Prop):Prop:=match f with
 | [a,b]=>(b≠0/\Sm 100 a/\Sm 100 b)/\∀B,1<=B->Sm 110 B->(∀n d,0<d->F2 a b n d=0->(n.natAbs:Int)<B*d)->Q B
 | [a,b,c]=>(c≠0/\Sm 100 a/\Sm 100 b/\Sm 100 c)/\∀B,1<=B->Sm 110 B->(∀n d,0<d->F3 a b c n d=0->(n.natAbs:Int)<B*d)->Q B
 |_=>False
def Bt:aM:=λvs Q=>a1 (λv0=>bq v0 λf=>NA f λx=>Q (.i x)) vs
noncomputable abbrev qI:cp:=[("zdegree",cZ),("zat",BU)]
noncomputable abbrev pn(f a:List Int)(n:Int):Sg:=⟨[("f",.val (.l .I f)),("found",.val (.i n)),("sizes",.val (.l .I a))],[]⟩
theorem Sm.nat{k:Nat}{x:Int}(h:Sm k x):Sm k (x.natAbs:Int):=Sm.iff.mpr (Sm.iff.mp h)
theorem IF{n:Int}{S:Nat}(h1:1<=n)(h2:n<=2*(S:Int))(a:S<2^109):Sm 110 n:=
 Sm.iff.mpr (d7 (dH.mp (p6 (bb (by decide) h1)▸h2:((n.natAbs:Nat):Int)<=((2*S:Nat):Int))) (dr (Yd a (by decide)) (by decide)))
theorem Kd{S n:Int}{k:Nat}(hi:pk S k n)(h:n<=S):(2*S+2-n*2).toNat<k/\pk S (2*S+2-n*2).toNat (n*2):=by
 obtain⟨i1,i2,hk⟩:=hi
 have a:n<n*2:=bT 2 n▸(rI n).symm▸rG n i1
 exact⟨hk▸CC (Ye a _) (wv (oB i2 (rG _ (by decide)))),bb i1 (bZ a),bT 2 n▸gA h (by decide),rfl⟩
theorem PJ{a b n:Int}{R c:aC->Sg->Prop}{k:Nat}(hb:b≠0)(sa:Sm 100 a)(h:Sm 100 b)(hi:pk ((a.natAbs:Int)+b.natAbs) k n)(h1: ∀k' j,k'<k->pk ((a.natAbs:Int)+b.natAbs) k' j->R .next (pn [a,b] [(a.natAbs:Int),(b.natAbs:Int)] j))(h2: ∀σ,(∀p d,0<d->F2 a b p d=0->(p.natAbs:Int)<n*d)->Sm 110 n->c (.ret (.i n)) σ):
  lu (cy qI) 20 (au 83).scope.names [] 4 (lp (au 83).body 1) (pn [a,b] [(a.natAbs:Int),(b.natAbs:Int)] n) (λah=>sg 83 qI [] ah ((au 83).body.drop 2) c) R:=aX (B:=(aq (2:Int) (b.natAbs:Int)=true/\((0:Int)<=(1:Int)/\ce n (1:Nat)=true)/\aq ((2:Int)*(b.natAbs:Int)) (n^(1:Nat))=true/\(Sm (110:Nat) (a.natAbs:Int)/\Sm (110:Nat) (b.natAbs:Int)/\Sm (110:Nat) n)/\aE (decide ((2:Int)*(b.natAbs:Int)*n^(1:Nat)<=(b.natAbs:Int)*n+(a.natAbs:Int))) (aq n (2:Int)=true/\R aC.next (Sg.mk [(al "f",Sl.val (V.l K.I [a,b])),(al "found",Sl.val (V.i (n*(2:Int)))),(al "sizes",Sl.val (V.l K.I [(a.natAbs:Int),(b.natAbs:Int)]))] [])) (c (aC.ret (V.i n)) (Sg.mk [(al "f",Sl.val (V.l K.I [a,b])),(al "found",Sl.val (V.i n)),(al "sizes",Sl.val (V.l K.I [(a.natAbs:Int),(b.natAbs:Int)]))] [])))) (by kernel_rfl) (by
 have sn:Sm 110 n:=IF (S:=a.natAbs+b.natAbs) hi.1 hi.2 (dr (zJ (Sm.iff.mp sa) (Sm.iff.mp h)) (by decide))
 have m:Sm 110 (a.natAbs:Int):=sa.nat.mono (by decide)
 have f:Sm 110 (b.natAbs:Int):=h.nat.mono (by decide)
 have s2:Sm 64 2:=Sm.lit (by decide)
 have e1:(b.natAbs:Int)*n=n*b.natAbs:=bT ..
 refine⟨ly (by decide),⟨by decide,jH sn (by decide) (by decide)⟩,Sm.ok (s2.mul f) (sn.pow 1) (by decide) (by decide),⟨m,f,sn⟩,?_⟩
 simp only[oG,eK]
 refine cw (λe=>⟨Ci (by decide),?_⟩) (λe=>h2 _ (λp d hd hz=>NC hb hd (Yj (rI _▸l8.mp (of_decide_eq_false e))) hz) sn)
 have hle:=of_decide_eq_true e
 have hn:n<=(b.natAbs:Int)*n:=u7 (FO.mpr (zX.mpr hb)) (bb (by decide) hi.1)
 have g:=Kd hi (bb hn (bb (Yk (rI _▸hle)) (t6 (jz _))))
 exact h1 _ _ g.1 g.2)
theorem Sh{a b c n:Int}{R f:aC->Sg->Prop}{k:Nat}(hc:c≠0)(sa:Sm 100 a)(h:Sm 100 b)(sc:Sm 100 c)(hi:pk ((a.natAbs:Int)+b.natAbs+1) k n)(h1: ∀k' j,k'<k->pk ((a.natAbs:Int)+b.natAbs+1) k' j->R .next (pn [a,b,c] [(a.natAbs:Int),(b.natAbs:Int),(c.natAbs:Int)] j))(h2: ∀σ,(∀p d,0<d->F3 a b c p d=0->(p.natAbs:Int)<n*d)->Sm 110 n->f (.ret (.i n)) σ):
  lu (cy qI) 20 (au 83).scope.names [] 4 (lp (au 83).body 1) (pn [a,b,c] [(a.natAbs:Int),(b.natAbs:Int),(c.natAbs:Int)] n) (λah=>sg 83 qI [] ah ((au 83).body.drop 2) f) R:=aX (B:=(aq (2:Int) (c.natAbs:Int)=true/\(0<=(2:Int)/\ce n 2=true)/\aq ((2:Int)*(c.natAbs:Int)) (n^2)=true/\(Sm 110 (a.natAbs:Int)/\Sm 110 (b.natAbs:Int)/\Sm 110 (c.natAbs:Int)/\Sm 110 n)/\aE (decide ((2:Int)*(c.natAbs:Int)*n^2<=((c.natAbs:Int)*n+(b.natAbs:Int))*n+(a.natAbs:Int))) (aq n (2:Int)=true/\R aC.next (Sg.mk [("f",.val (.l .I [a,b,c])),("found",.val (.i (n*(2:Int)))),("sizes",.val (.l .I [(a.natAbs:Int),(b.natAbs:Int),(c.natAbs:Int)]))] [])) (f (aC.ret (V.i n)) (Sg.mk [("f",.val (.l .I [a,b,c])),("found",.val (.i n)),("sizes",.val (.l .I [(a.natAbs:Int),(b.natAbs:Int),(c.natAbs:Int)]))] [])))) (by kernel_rfl) (by
 have i1:=hi.1
 have sn:Sm 110 n:=IF (S:=a.natAbs+b.natAbs+1) hi.1 hi.2 (dr (XI (zJ (Sm.iff.mp sa) (Sm.iff.mp h)) 1) (by decide))
 have r:Sm 110 (a.natAbs:Int):=sa.nat.mono (by decide)
 have o:Sm 110 (b.natAbs:Int):=h.nat.mono (by decide)
 have m:Sm 110 (c.natAbs:Int):=sc.nat.mono (by decide)
 have s2:Sm 64 2:=Sm.lit (by decide)
 refine⟨ly (by decide),⟨by decide,jH sn (by decide) (by decide)⟩,Sm.ok (s2.mul m) (sn.pow 2) (by decide) (by decide),⟨r,o,m,sn⟩,?_⟩
 have e2:n^2=n*n:=by rw[show 2=1+1 from rfl,ki,oG]
 have q:((c.natAbs:Int)*n+b.natAbs)*n+a.natAbs=(c.natAbs:Int)*(n*n)+(b.natAbs:Int)*n+a.natAbs:=by grind
 rw[e2,eK,q]
 refine cw (λe=>⟨Ci (by decide),?_⟩) (λe=>h2 _ (λp d hd hz=>Vf hd i1 (Yj (rI _▸wb _ _ _▸l8.mp (of_decide_eq_false e))) hz) sn)
 have hle:=of_decide_eq_true e
 have n0:0<=n:=bb (by decide) i1
 have h3:n*n<=(b.natAbs:Int)*n+a.natAbs:=bb (u7 (FO.mpr (zX.mpr hc)) (fW n0 n0)) (Yk (rI _▸wb _ _ _▸hle))
 have h4:(a.natAbs:Int)<=a.natAbs*n:=bb (oF (dh _).symm) (gA i1 (jz _))
 have hn:n<=(a.natAbs:Int)+b.natAbs:=Int.le_of_mul_le_mul_right (a:=n) (bb h3 (bb (ML h4 _) (oF (by rw[Ma,zQ])))) i1
 have g:=Kd hi (bb hn (t6 (by decide)))
 exact h1 _ _ g.1 g.2)
theorem Um(B:aP G){D:Nat}(hs:aG G D qI):ao G (D+1) "roots_within" Bt:=eD B (i:=83) (by kernel_rfl) hs λvs Q h=>by
 apply cu h;intro v0 h0
 apply bL h0;intro f hq
 try clear h0
 try clear h
 revert hq
 revert f
 refine l4 ?_ ?_ ?_ ?_ ?_ ?_
 ·exact λh=>h.elim
 ·exact λe h=>h.elim
 ·intro a b j
  refine aj λm=>?_
  obtain⟨⟨hb,sa,g⟩,hq⟩:=j
  refine m ?_
  have h2: ∀n σ,1<=n->(∀p d,0<d->F2 a b p d=0->(p.natAbs:Int)<n*d)->Sm 110 n->aB Q (.ret (.i n)) σ:=λn σ h1 h2 h3=>hq n h1 h3 h2
  exact⟨rfl,λd Γ hd l o=>WS.whQ (i:=83) (mt:=[]) (k:=1) l hd o (by kernel_rfl) (by kernel_rfl) (aX (B:=(2<=1000000/\∃F:Int->Int,(∀x:Int,x∈[a,b]->K.of K.I (V.i (cq x:Int))=some (F x)/\([]:SL)=[])/\lm 83 qI [] (lp (au 83).body 1) ((au 83).body.drop 2) (aB Q) (pn [a,b] [F a,F b] 1))) (by kernel_rfl) ⟨by decide,λx=>(x.natAbs:Int),λx hx=>⟨rfl,rfl⟩,Int,pn [a,b] [(a.natAbs:Int),(b.natAbs:Int)],pk ((a.natAbs:Int)+b.natAbs),_,1,⟨kU 1,by lia,rfl⟩,λS h=>h,λk n hi=>PJ hb sa g hi (λk' q h i=>km h i) λσ h3 h4=>h2 n σ (by obtain⟨h,_,_⟩:=hi;exact h) h3 h4⟩)⟩
 ·intro a b c j
  refine aj λm=>?_
  obtain⟨⟨hc,sa,g,sc⟩,hq⟩:=j
  refine m ?_
  have h2: ∀n σ,1<=n->(∀p d,0<d->F3 a b c p d=0->(p.natAbs:Int)<n*d)->Sm 110 n->aB Q (.ret (.i n)) σ:=λn σ h1 h2 h3=>hq n h1 h3 h2
  exact⟨rfl,λd Γ hd l o=>WS.whQ (i:=83) (mt:=[]) (k:=1) l hd o (by kernel_rfl) (by kernel_rfl) (aX (B:=(3<=1000000/\∃F:Int->Int,(∀x:Int,x∈[a,b,c]->K.of K.I (V.i (cq x:Int))=some (F x)/\([]:SL)=[])/\lm 83 qI [] (lp (au 83).body 1) ((au 83).body.drop 2) (aB Q) (pn [a,b,c] [F a,F b,F c] 1))) (by kernel_rfl) ⟨by decide,λx=>(x.natAbs:Int),λx hx=>⟨rfl,rfl⟩,Int,pn [a,b,c] [(a.natAbs:Int),(b.natAbs:Int),(c.natAbs:Int)],pk ((a.natAbs:Int)+b.natAbs+1),_,1,⟨kU 1,by lia,rfl⟩,λS h=>h,λk n hi=>Sh hc sa g sc hi (λk' q h i=>km h i) λσ h3 h4=>h2 n σ (by obtain⟨h,_,_⟩:=hi;exact h) h3 h4⟩)⟩
 ·exact λe e e e h=>h.elim
 ·exact λe e e e e e h=>h.elim
end
section
variable {G:aK} {d:Nat} {Γ:Fm} {S:St}
def R6(p:List Int)(Q:V->Prop):Prop:=match p with
 | [a,b]=>wK [.l .I [a,b]] Q
 | [a,b,c]=>o8 [.l .I [a,b,c]] Q
 |_=>False
def Am:aM:=λvs Q=>a1 (λv0=>bq v0 λp=>R6 p Q) vs
theorem Wi{D:Nat}(h2:ao G D "simple_part" wK)(h3:ao G D "simple_part" o8):ao G D "simple_part" Am:=by
 refine⟨h3.1,λvs Q d h hd=>?_⟩
 apply cu h;intro v h0
 apply bL h0;intro p hq
 try clear h0
 try clear h
 revert hq
 revert p
 refine l4 ?_ ?_ ?_ ?_ ?_ ?_
 ·exact λh=>h.elim
 ·exact λe h=>h.elim
 ·intro a b hq
  exact h2.2 _ Q d hq hd
 ·intro a b c hq
  exact h3.2 _ Q d hq hd
 ·exact λe e e e h=>h.elim
 ·exact λe e e e e e h=>h.elim
def Wm(p q:List Int)(Q:Int->Prop):Prop:=match p,q with
 | [a0,a1],[b,a]=>((a≠0/\cz a0 a1 b b a)/\a1≠0)/\Q (b*a1-a0*a)
 | [a0,a1,a2],[b,a]=>((a≠0/\cz a0 a1 a2 b a)/\a2≠0)/\Q (a7 a0 a1 a2 b a)
 |_,_=>False
def Dj:aM:=λvs Q=>a2 (λv0 v1=>bq v0 λp=>bq v1 λq=>Wm p q λx=>Q (.i x)) vs
theorem Rd{D:Nat}(h2:ao G D "resultant" Bl)(h3:ao G D "resultant" AX):ao G D "resultant" Dj:=by
 refine⟨h3.1,λvs Q d h hd=>?_⟩
 apply bI h;intro v w h0
 apply bL h0;intro p h1
 apply bL h1;intro q hq
 try clear h1
 try clear h0
 try clear h
 revert q
 revert p
 exact l4 (λa h=>h.elim) (λa a h=>h.elim) (λa0 a1=>l4 (λh=>h.elim) (λa h=>h.elim) (λc b hq=>h2.2 [.l .I [a0,a1],.l .I [c,b]] Q d hq hd) (λa a a h=>h.elim) (λa a a a h=>h.elim) (λa a a a a a h=>h.elim))
  (λa0 a1 a2=>l4 (λh=>h.elim) (λa h=>h.elim) (λc b hq=>h3.2 [.l .I [a0,a1,a2],.l .I [c,b]] Q d hq hd) (λa a a h=>h.elim) (λa a a a h=>h.elim) (λa a a a a a h=>h.elim)) (λa a a a a h=>h.elim) (λa a a a a a a h=>h.elim)
noncomputable abbrev nu:cp:=[("zdegree",cZ),("simple_part",Am),("roots_within",Bt),("resultant",Dj),("zshift",B4),("first_differences",wO),("whole_zeros",wV)]
structure pF(xs:List (Int×Int))(z:Int×Int)(ys:List Int):Prop where
 asc:ys.Pairwise (· < ·)
 mem: ∀h,h∈ys↔(0<=h/\∃x∈xs,z.1*x.2-x.1*z.2=h*(x.2*z.2))
theorem AG{x z:Int×Int}{B C h:Int}(c:0<x.2)(b:0<z.2)(hx:(x.1.natAbs:Int)<B*x.2)(hz:(z.1.natAbs:Int)<C*z.2)(e:z.1*x.2-x.1*z.2=h*(x.2*z.2)):h<=B+C:=by
 have h1:z.1*x.2<=C*z.2*x.2:=fI (by trivial) (by trivial)
 have h2: -x.1*z.2<=B*x.2*z.2:=fI (by trivial) (by trivial)
 refine FQ (a:=x.2*z.2) ?_ (da c b)
 simp only[MZ]at h2;trivial
theorem Aw{xs rs:List (Int×Int)}{z:Int×Int}{n:Int}{ys:List Int}(hn: ∀h,(∃x∈xs,z.1*x.2-x.1*z.2=h*(x.2*z.2))->h<=n)(hr: ∀h,(h,1)∈rs↔∃x∈xs,z.1*x.2-x.1*z.2=h*(x.2*z.2))(h:jE rs n ys):pF xs z ys:=
 ⟨h.asc,λk=>by rw[h.mem,hr];exact⟨λq=>⟨q.1,q.2.2⟩,λq=>⟨q.1,hn k q.2,q.2⟩⟩⟩
noncomputable abbrev lC(a b:List Int):Sg:=⟨[("most",.any),("last",.any),("numbers",.any)],[("b",.val (.l .I b)),("a",.val (.l .I a))]⟩
theorem Gk{a0 a1 b a c e:Int}{x z:Int×Int}{Q:V->Prop}(ha:cM a0 a1 c x)(hb:cM b a e z)(u:Sm 42 a0)(o:Sm 42 a1)(v:Sm 40 b)(k:Sm 40 a)(J: ∀ys,pF [x] z ys->Q (.l .I ys)):sg 84 nu [] (lC [a0,a1] [b,a]) ((au 84).body.drop 2) (aB Q):=aX (B:=(aq 1 1=true/\(a1≠0/\Sm (100:Nat) a0/\Sm (100:Nat) a1)/\∀(B:Int),1<=B->Sm (110:Nat) B->(∀(n d:Int),0<d->F2 a0 a1 n d=0->(↑(cq n):Int)<B*d)->(a≠0/\Sm (100:Nat) b/\Sm (100:Nat) a)/\∀(f:Int),1<=f->Sm (110:Nat) f->(∀(n d:Int),0<d->F2 b a n d=0->(↑(cq n):Int)<f*d)->aq 1 (min 1 (B+f))=true/\aE (decide (1*min 1 (B+f)>1000000)) False (aE (decide (B+f<=1)) (bE (B+f+1)/\aR (bD 0 1 (bY (B+f+1)))<=(1000000:Nat)/\∃m F,(∀(x:K.D K.I),x∈bD 0 1 (bY (B+f+1))->aq x a=true/\((a≠0/\cz a0 a1 (b+x*a) (b+x*a) a)/\a1≠0)/\((b+x*a)*a1-a0*a==0)=m x/\(m x=false->[(al "b",Sl.val (V.l K.I [b,a])),(al "a",Sl.val (V.l K.I [a0,a1]))]=[(al "b",Sl.val (V.l K.I [b,a])),(al "a",Sl.val (V.l K.I [a0,a1]))])/\(m x=true->K.of K.I (V.i x)=some (F x)/\[(al "b",Sl.val (V.l K.I [b,a])),(al "a",Sl.val (V.l K.I [a0,a1]))]=[(al "b",Sl.val (V.l K.I [b,a])),(al "a",Sl.val (V.l K.I [a0,a1]))]))/\Q (V.l K.I (bS F (gx m (bD 0 1 (bY (B+f+1))))))) (bE 2/\(2:Nat)<=(1000000:Nat)/\∃F:K.D K.I->K.D K.I,(∀(x:K.D K.I),x∈[0,1]->aq x a=true/\((a≠0/\cz a0 a1 (b+x*a) (b+x*a) a)/\a1≠0)/\K.of K.I (V.i ((b+x*a)*a1-a0*a))=some (F x)/\[(al "b",Sl.val (V.l K.I [b,a])),(al "a",Sl.val (V.l K.I [a0,a1]))]=[(al "b",Sl.val (V.l K.I [b,a])),(al "a",Sl.val (V.l K.I [a0,a1]))])/\True/\∃rs,((0<=B+f/\(2:Nat)<=(4:Nat))/\jC [F 0,F 1-F 0] rs/\∀(x:Int),x∈[F 0,F 1-F 0]->Sm (90:Nat) x)/\∀(ys:List Int),jE rs (B+f) ys->Q (V.l K.I ys))))) (by kernel_rfl) (by
 have s:=ha.nx.pos
 have p:=hb.nx.pos
 have na:a1≠0:=by rw[ha.e1];exact bH ha.ne (by trivial)
 have nb:a≠0:=by rw[hb.e1];exact bH hb.ne (by trivial)
 have H:0<x.2*z.2:=da s p
 refine aj λN=>?_
 obtain⟨g,g1,g2,g3,L⟩:=jj (t:=z.1*x.2-x.1*z.2) (show x.2*z.2≠0 by trivial)
 refine N ?_
 have g3:=g3 H
 have f0:(b+0*a)*a1-a0*a=b*a1-a0*a:=by rw[fV,iM]
 have f1:(b+1*a)*a1-a0*a-(b*a1-a0*a)=a1*a:=by grind
 have A: ∀h:Int,Sm 10 h->cz a0 a1 (b+h*a) (b+h*a) a:=λh w=>by
  have :=(v.add (w.mul k)).mono (show 40+(10+40)+1<=300 by decide)
  exact⟨⟨u.mono (by decide),o.mono (by decide),this⟩,this,k.mono (by decide)⟩
 have hr: ∀h:Int,(h,1)∈[aL (z.1*x.2-x.1*z.2) (x.2*z.2)]↔∃y∈[x],z.1*y.2-y.1*z.2=h*(y.2*z.2):=λh=>by
  rw[bC]
  constructor
  ·intro q
   rw[← q]at g1 g2
   refine⟨x,oH _,?_⟩
   dsimp only at g1 g2
   rw[g2,g1];grind
  ·rintro⟨y,j,q⟩
   rw[bC.mp j]at q
   exact(jP (by trivial) ⟨p7,by simp⟩ (by dsimp only;rw[dh];exact q)).symm
 refine⟨ly (by decide),⟨na,u.mono (by decide),o.mono (by decide)⟩,λB B1 sB hB=>⟨⟨nb,v.mono (by decide),k.mono (by decide)⟩,λC C1 sC hC=>⟨ly (by decide),cw (λq=>?_) (λE=>cw (λq=>?_) (λE=>⟨fv (by decide) (by decide),by decide,λh=>(b+h*a)*a1-a0*a,DI ⟨ly (by decide),⟨⟨nb,A 0 (Sm.iff.mpr (by decide))⟩,na⟩,rfl,rfl⟩ ⟨ly (by decide),⟨⟨nb,A 1 (Sm.iff.mpr (by decide))⟩,na⟩,rfl,rfl⟩,trivial,[aL (z.1*x.2-x.1*z.2) (x.2*z.2)],⟨⟨by lia,by decide⟩,⟨_,rfl,⟨L,?_,?_⟩⟩,?_⟩,λys j=>J ys (Aw (λh w=>?_) hr j)⟩))⟩⟩⟩
 ·have :=of_decide_eq_true q;lia
 ·have :=of_decide_eq_true q;omega
 ·dsimp only
  rw[f0,f1]
  exact bH (bH na nb) (by decide)
 ·dsimp only
  rw[f0,f1]
  generalize aL (z.1*x.2-x.1*z.2) (x.2*z.2)=r at *
  have :g*F2 ((b*a1-a0*a)*2) (a1*a*2) r.1 r.2=0:=by
   unfold F2
   rw[show g*(a1*a*2*r.1+(b*a1-a0*a)*2*r.2)=a1*a*2*(g*r.1)+(b*a1-a0*a)*2*(g*r.2) by grind, ← g1, ← g2,ha.e0,ha.e1,hb.e0,hb.e1];grind
  exact(fq.mp this).resolve_left (by trivial)
 ·dsimp only
  rw[f0,f1]
  intro y j
  rcases bz.mp j with rfl|j
  ·exact(ln (v.mul o) (u.mul k)).mono (by decide)
  ·rw[bC.mp j];exact(o.mul k).mono (by decide)
 ·obtain⟨y,j,q⟩:=w
  rw[bC.mp j]at q
  have G:=hB x.1 x.2 s (by rw[ha.F,bT x.2,kj,cP])
  have M:=hC z.1 z.2 p (by rw[hb.F,bT z.2,kj,cP])
  exact AG s p G M q)
end
section
variable {G:aK} {d:Nat} {Γ:Fm} {S:St}
theorem w3{x z:Int×Int}(b:0<x.2)(a:0<z.2)(h:Int):(h,1)=aL (z.1*x.2-x.1*z.2) (x.2*z.2)↔z.1*x.2-x.1*z.2=h*(x.2*z.2):=by
 have hW:0<x.2*z.2:=da b a
 obtain⟨g,g1,g2,g3,gn⟩:=jj (t:=z.1*x.2-x.1*z.2) (show x.2*z.2≠0 by trivial)
 constructor
 ·intro q
  rw[← q]at g1 g2
  dsimp only at g1 g2
  simp only[g2,g1];grind
 ·intro q
  exact(jP (by trivial) ⟨p7,by simp⟩ (by dsimp only;rw[dh];exact q)).symm
theorem GG{a0 a1 a2 b a c e h:Int}{x y z:Int×Int}(ha:cv a0 a1 a2 c x y)(hb:cM b a e z):a7 a0 a1 a2 (b+h*a) a=c*(e*e)*(((z.1*x.2-x.1*z.2)-h*(x.2*z.2))*((z.1*y.2-y.1*z.2)-h*(y.2*z.2))):=by
 unfold a7
 simp only[ha.e0,ha.e1,ha.e2,hb.e0,hb.e1];grind
theorem OR{rs:List (Int×Int)}{n:Int}{v:Int->Int}(hn:0<=n)(h: ∀p,v p=0↔(p,1)∈rs):jE rs n (((bD 0 1 (n+1).toNat).filter λp=>v p==0).map λp=>p):=by
 simp only[MR]
 refine⟨(Yh _ ?_),λp=>?_⟩
 ·unfold bD
  rw[E6]
  exact Yi.imp λh=>by lia
 ·rw[ke]
  constructor
  ·rintro⟨h1,h2⟩
   have h3:=qg h1
   exact⟨h3.1,by lia,(h p).mp (by simpa using h2)⟩
  ·rintro⟨h1,h2,h3⟩
   refine⟨?_,by simpa using(h p).mpr h3⟩
   unfold bD
   exact bF.mpr ⟨p.toNat,rh.mpr (by lia),by lia⟩
theorem Ti{k:Nat}{x y:Int}(h1:Sm k x)(h2:Sm k y):Sm (k+1) (x+y):=by
 have :=ln h1 h2.neg
 simp only[Int.sub_neg]at this;exact this
theorem Q7{v:Int->Int}{M j f i e g k:Int}{r s:Int×Int}(hM:M≠0)(a: ∀h,v h=M*((j-h*f)*(i-h*e)))(b:b7 r)(ns:b7 s)(d:g≠0)(c:k≠0)(e1:j=g*r.1)(e2:f=g*r.2)(m:i=k*s.1)(l:e=k*s.2)(hq:r.2*s.2<=4):jC [v 0,v 1-v 0,v 2-v 1-(v 1-v 0)] [r,s]:=by
 subst e1 e2 m l
 have hC:6*M*(g*k)≠0:=bH (by trivial) (bH d c)
 have w:v 2-v 1-(v 1-v 0)=2*M*(g*k)*(r.2*s.2):=by simp only[a,a,a];grind
 refine .inr ⟨?_,r,s,rfl,⟨b,ns,⟨6*M*(g*k),hC,?_,?_,?_⟩,hq⟩⟩
 ·simp only[w]
  exact bH (bH (by trivial) (bH d c)) (bH (by have :=b.pos;trivial) (by have :=ns.pos;trivial))
 ·simp only[a];grind
 ·simp only[a,a,a];grind
 ·simp only[w];grind
theorem Ul{a0 a1 a2 b a c e:Int}{x y z:Int×Int}{Q:V->Prop}(ha:cv a0 a1 a2 c x y)(hb:cM b a e z)(hq:(aL (z.1*x.2-x.1*z.2) (x.2*z.2)).2*(aL (z.1*y.2-y.1*z.2) (y.2*z.2)).2<=4)(H:Sm 72 a0)(J:Sm 42 a1)(E:Sm 8 a2)(O:Sm 36 b)(o:Sm 4 a)(P: ∀ys,pF [x,y] z ys->Q (.l .I ys)):sg 84 nu [] (lC [a0,a1,a2] [b,a]) ((au 84).body.drop 2) (aB Q):=aX (B:=(aq 2 1=true/\(a2≠0/\Sm (100:Nat) a0/\Sm (100:Nat) a1/\Sm (100:Nat) a2)/\∀(B:Int),1<=B->Sm (110:Nat) B->(∀(n d:Int),0<d->F3 a0 a1 a2 n d=0->(↑(cq n):Int)<B*d)->(a≠0/\Sm (100:Nat) b/\Sm (100:Nat) a)/\∀(f:Int),1<=f->Sm (110:Nat) f->(∀(n d:Int),0<d->F2 b a n d=0->(↑(cq n):Int)<f*d)->aq 2 (min 2 (B+f))=true/\aE (decide (2*min 2 (B+f)>1000000)) False (aE (decide (B+f<=2)) (bE (B+f+1)/\aR (bD 0 1 (bY (B+f+1)))<=(1000000:Nat)/\∃s F,(∀(x:K.D K.I),x∈bD 0 1 (bY (B+f+1))->aq x a=true/\((a≠0/\cz a0 a1 a2 (b+x*a) a)/\a2≠0)/\(a7 a0 a1 a2 (b+x*a) a==0)=s x/\(s x=false->[(al "b",Sl.val (V.l K.I [b,a])),(al "a",Sl.val (V.l K.I [a0,a1,a2]))]=[(al "b",Sl.val (V.l K.I [b,a])),(al "a",Sl.val (V.l K.I [a0,a1,a2]))])/\(s x=true->K.of K.I (V.i x)=some (F x)/\[(al "b",Sl.val (V.l K.I [b,a])),(al "a",Sl.val (V.l K.I [a0,a1,a2]))]=[(al "b",Sl.val (V.l K.I [b,a])),(al "a",Sl.val (V.l K.I [a0,a1,a2]))]))/\Q (V.l K.I (bS F (gx s (bD 0 1 (bY (B+f+1))))))) (bE 3/\(3:Nat)<=(1000000:Nat)/\∃F:K.D K.I->K.D K.I,(∀(x:K.D K.I),x∈[0,1,2]->aq x a=true/\((a≠0/\cz a0 a1 a2 (b+x*a) a)/\a2≠0)/\K.of K.I (V.i (a7 a0 a1 a2 (b+x*a) a))=some (F x)/\[(al "b",Sl.val (V.l K.I [b,a])),(al "a",Sl.val (V.l K.I [a0,a1,a2]))]=[(al "b",Sl.val (V.l K.I [b,a])),(al "a",Sl.val (V.l K.I [a0,a1,a2]))])/\True/\∃rs,((0<=B+f/\(3:Nat)<=(4:Nat))/\jC [F 0,F 1-F 0,F 2-F 1-(F 1-F 0)] rs/\∀(x:Int),x∈[F 0,F 1-F 0,F 2-F 1-(F 1-F 0)]->Sm (90:Nat) x)/\∀(ys:List Int),jE rs (B+f) ys->Q (V.l K.I ys))))) (by kernel_rfl) (by
 have r:=ha.nx.pos
 have py:=ha.ny.pos
 have j:=hb.nx.pos
 have na:=ha.a2
 have nb:a≠0:=by simp only[hb.e1];exact bH hb.ne (by trivial)
 have N: ∀h:Int,Sm 2 h->Sm 37 (b+h*a):=λh m=>Ti O ((m.mul o).mono (by decide))
 have X: ∀h:Int,Sm 2 h->cz a0 a1 a2 (b+h*a) a:=λh m=>⟨⟨H.mono (by decide),J.mono (by decide),E.mono (by decide)⟩,(N h m).mono (by decide),o.mono (by decide)⟩
 have G: ∀h:Int,Sm 2 h->Sm 86 (a7 a0 a1 a2 (b+h*a) a):=λh m=>by
  unfold a7
  exact ln (((H.mul o).mul o).mono (by decide)) (((N h m).mul (ln ((J.mul o).mono (show 42+4<=46 by decide)) (((N h m).mul E).mono (show 37+8<=46 by decide)))).mono (by decide))
 have two: ∀{h:Int},0<=h->h<=2->Sm 2 h:=λh0 h1=>Sm.iff.mpr (by trivial)
 have hr: ∀h:Int,(h,1)∈[aL (z.1*x.2-x.1*z.2) (x.2*z.2),aL (z.1*y.2-y.1*z.2) (y.2*z.2)]↔∃w∈[x,y],z.1*w.2-w.1*z.2=h*(w.2*z.2):=λh=>by
  simp only[bz,gT,or_false,w3 r j,w3 py j,exists_eq_or_imp,exists_eq_left]
 have hv: ∀h:Int,a7 a0 a1 a2 (b+h*a) a=0↔(h,1)∈[aL (z.1*x.2-x.1*z.2) (x.2*z.2),aL (z.1*y.2-y.1*z.2) (y.2*z.2)]:=λh=>by
  have M:c*(e*e)≠0:=bH ha.ne (bH hb.ne hb.ne)
  simp only[GG ha hb]
  simp only[bz,gT,or_false,w3 r j,w3 py j]
  constructor
  ·intro q
   rcases fq.mp ((fq.mp q).resolve_left M)with q|q
   ·exact .inl (by trivial)
   ·exact .inr (by trivial)
  ·rintro(q|q)
   ·simp only[q,kj,fV,cP]
   ·simp only[q,kj,cP,cP]
 refine aj λaf=>?_
 obtain⟨g,g1,g2,g3,gn⟩:=jj (t:=z.1*x.2-x.1*z.2) (show x.2*z.2≠0 from bH (by trivial) (by trivial))
 obtain⟨k,k1,k2,Z,Y⟩:=jj (t:=z.1*y.2-y.1*z.2) (show y.2*z.2≠0 from bH (by trivial) (by trivial))
 refine af ?_
 have g0:=g3 (da r j)
 have k0:=Z (da py j)
 have W:=Q7 (v:=λh=>a7 a0 a1 a2 (b+h*a) a) (bH ha.ne (bH hb.ne hb.ne)) (λh=>GG ha hb) gn Y (show g≠0 by trivial) (show k≠0 by trivial) g1 g2 k1 k2 hq
 refine⟨ly (by decide),⟨na,H.mono (by decide),J.mono (by decide),E.mono (by decide)⟩,λB B1 sB hB=>⟨⟨nb,O.mono (by decide),o.mono (by decide)⟩,λC C1 sC hC=>?_⟩⟩
 have S:=hC z.1 z.2 j (by simp only[hb.F,bT z.2,kj,cP])
 have U:=hB x.1 x.2 r (by simp only[ha.F,bT x.2,kj,fV,cP])
 have L:=hB y.1 y.2 py (by simp only[ha.F,bT y.2 y.1,kj,cP,cP])
 have lim: ∀h:Int,(∃w∈[x,y],z.1*w.2-w.1*z.2=h*(w.2*z.2))->h<=B+C:=λh m=>by
  obtain⟨w,hw,q⟩:=m
  simp only[bz,gT,or_false]at hw
  rcases hw with rfl|rfl
  ·exact AG r j U S q
  ·exact AG py j L S q
 have u: ∀h:Int,0<=h->h<=2->aq h a=true/\((a≠0/\cz a0 a1 a2 (b+h*a) a)/\a2≠0):=λh h0 h1=>⟨Sm.ok (two h0 h1) o (by decide) (by decide),⟨nb,X h (two h0 h1)⟩,na⟩
 refine⟨ly (by decide),cw (λq=>?_) (λA=>cw (λq=>?_) (λA=>?_))⟩
 ·have :=of_decide_eq_true q;trivial
 ·have hle:=of_decide_eq_true q
  have hl:(bD 0 1 (B+C+1).toNat).length<=1000000:=by unfold bD;simp only[bi,oA];trivial
  exact⟨fv (by trivial) (by trivial),hl,λh=>a7 a0 a1 a2 (b+h*a) a==0,λh=>h,λp hp=>by
   have :=qg hp
   obtain⟨q1,q2⟩:=u p this.1 (by trivial)
   exact⟨q1,q2,rfl,λA=>rfl,λA=>⟨rfl,rfl⟩⟩,P _ (Aw lim hr (OR (v:=λh=>a7 a0 a1 a2 (b+h*a) a) (by trivial) hv))⟩
 ·have q0:=u 0 (by decide) (by decide)
  have q1:=u 1 (by decide) (by decide)
  have q2:=u 2 (by decide) (by decide)
  have s0:=G 0 (two (by decide) (by decide))
  have s1:=G 1 (two (by decide) (by decide))
  have s2:=G 2 (two (by decide) (by decide))
  refine⟨fv (by decide) (by decide),by decide,λh=>a7 a0 a1 a2 (b+h*a) a,Kc ⟨q0.1,q0.2,rfl,rfl⟩ ⟨q1.1,q1.2,rfl,rfl⟩ ⟨q2.1,q2.2,rfl,rfl⟩,trivial,_,⟨⟨by trivial,by decide⟩,W,?_⟩,λys hy=>P ys (Aw lim hr hy)⟩
  intro w hw
  rcases bz.mp hw with rfl|hw
  ·exact s0.mono (by decide)
  ·rcases bz.mp hw with rfl|hw
   ·exact(ln s1 s0).mono (by decide)
   ·simp only[bC.mp hw]
    exact(ln (ln s2 s1) (ln s1 s0)).mono (by decide))
end
section
variable {G:aK} {d:Nat} {Γ:Fm} {S:St}
def Bm(p q:List Int)(Q:List Int->Prop):Prop:=match p,q with
 | [a0,a1],[b,a]=>∃(c e:Int) (x z:Int×Int),(cM a0 a1 c x/\cM b a e z/\(Sm 42 a0/\Sm 42 a1)/\Sm 36 b/\Sm 4 a)/\∀ys,pF [x] z ys->Q ys
 | [a0,a1,a2],[b,a]=>∃(c e:Int) (x y z:Int×Int),(cv a0 a1 a2 c x y/\cM b a e z/\(aL (z.1*x.2-x.1*z.2) (x.2*z.2)).2*(aL (z.1*y.2-y.1*z.2) (y.2*z.2)).2<=4/\(Sm 72 a0/\Sm 42 a1/\Sm 8 a2)/\Sm 36 b/\Sm 4 a)/\∀ys,pF [x,y] z ys->Q ys
 |_,_=>False
def Bg:aM:=λvs Q=>a2 (λv0 v1=>bq v0 λp=>bq v1 λq=>Bm p q λys=>Q (.l .I ys)) vs
theorem N4(B:aP G){D:Nat}(hs:aG G D nu){a0 a1 b a:Int}{Q:V->Prop}(h:Bm [a0,a1] [b,a] λl=>Q (.l .I l)):w4 G 84 nu D [.l .I [a0,a1],.l .I [b,a]] Q:=by
 refine aj λr=>?_
 obtain⟨c,e,x,z,⟨ha,hb,⟨f,g⟩,i,m⟩,q⟩:=h
 refine r ?_
 have na:a1≠0:=by rw[ha.e1];exact bH ha.ne (by have :=ha.nx.pos;trivial)
 have nb:a≠0:=by rw[hb.e1];exact bH hb.ne (by have :=hb.nx.pos;trivial)
 refine⟨rfl,λd Γ hd j n=>WS.at_ (k:=2) (by kernel_rfl) ((bW j hd (by rw[n]) (aX (A:=sg 84 nu [] (gG (au 84) [.l .I [a0,a1],.l .I [b,a]]) ((au 84).body.take 2) (iq (λσ=>σ=lC [a0,a1] [b,a]) (λp p=>False))) (B:=((a1≠0/\Sm 200 a0/\Sm 200 a1)/\(a≠0/\Sm 200 b/\Sm 200 a)/\(λσ=>σ=lC [a0,a1] [b,a]) (Sg.mk [("most",Sl.any),("last",Sl.any),("numbers",Sl.any)] [("b",.val (.l .I [b,a])),("a",.val (.l .I [a0,a1]))]))) (by kernel_rfl) ⟨⟨na,f.mono (by decide),g.mono (by decide)⟩,⟨nb,i.mono (by decide),m.mono (by decide)⟩,rfl⟩)).mono λo ah w=>?_)⟩
 induction o with
 |ret v=>exact w.elim
 |next=>
  have w:ah=lC [a0,a1] [b,a]:=w
  simp only[w]
  exact bW j hd (by rw[n]) (Gk ha hb f g (i.mono (by decide)) (m.mono (by decide)) q)
theorem Uq(B:aP G){D:Nat}(hs:aG G D nu){a0 a1 a2 b a:Int}{Q:V->Prop}(h:Bm [a0,a1,a2] [b,a] λl=>Q (.l .I l)):w4 G 84 nu D [.l .I [a0,a1,a2],.l .I [b,a]] Q:=by
 refine aj λr=>?_
 obtain⟨rc,e,rx,ry,z,⟨ha,hb,hr,⟨L,u,t⟩,j,p⟩,E⟩:=h
 refine r ?_
 have nb:a≠0:=by rw[hb.e1];exact bH hb.ne (by have :=hb.nx.pos;trivial)
 have pb:a≠0/\Sm 200 b/\Sm 200 a:=⟨nb,j.mono (by decide),p.mono (by decide)⟩
 refine⟨rfl,λd Γ hd n s=>WS.at_ (k:=2) (by kernel_rfl) ((bW n hd (by rw[s]) (aX (A:=sg 84 nu [] (gG (au 84) [.l .I [a0,a1,a2],.l .I [b,a]]) ((au 84).body.take 2) (iq (λσ=>(rx≠ry/\σ=lC [a0,a1,a2] [b,a])\/(rx=ry/\∃c0 c1 f,(cM c0 c1 f rx/\f∣rc)/\σ=lC [c0,c1] [b,a])) (λF F=>False))) (B:=(True/\∃c x y,cv a0 a1 a2 c x y/\(x=y->∀(c0 c1 e:Int),cM c0 c1 e x->(∃H,c=e*H)->(a≠0/\Sm 200 b/\Sm 200 a)/\(λσ=>(rx≠ry/\σ=lC [a0,a1,a2] [b,a])\/(rx=ry/\∃c0 c1 f,(cM c0 c1 f rx/\f∣rc)/\σ=lC [c0,c1] [b,a])) (Sg.mk [("most",Sl.any),("last",Sl.any),("numbers",Sl.any)] [("b",.val (.l .I [b,a])),("a",.val (.l .I [c0,c1]))]))/\(x≠y->(a≠0/\Sm 200 b/\Sm 200 a)/\(λσ=>(rx≠ry/\σ=lC [a0,a1,a2] [b,a])\/(rx=ry/\∃c0 c1 f,(cM c0 c1 f rx/\f∣rc)/\σ=lC [c0,c1] [b,a])) (Sg.mk [("most",Sl.any),("last",Sl.any),("numbers",Sl.any)] [("b",.val (.l .I [b,a])),("a",.val (.l .I [a0,a1,a2]))])))) (by kernel_rfl) ⟨trivial,rc,rx,ry,ha,λi c0 c1 f hf hd=>⟨pb,.inr ⟨i,c0,c1,f,⟨hf,hd⟩,rfl⟩⟩,λJ=>⟨pb,.inl ⟨J,rfl⟩⟩⟩)).mono λo ah w=>?_)⟩
 induction o with
 |ret v=>exact w.elim
 |next=>
  rcases w with⟨_,w⟩|⟨i,c0,c1,f,⟨hf,m⟩,w⟩
  ·rw[w]
   exact bW n hd (by rw[s]) (Ul ha hb hr L u t j p E)
  ·simp only[w]
   subst i
   have hx:=hf.nx.pos
   refine aj λr=>?_
   obtain⟨k,hk⟩:=m
   refine r ?_
   have M:k≠0:=λz=>ha.ne (by simp only[hk,z,cP])
   have s0:Sm 42 c0:=by
    have q:=u
    rw[ha.e1,hk]at q
    rw[hf.e0]
    refine(de (g:=2*k*rx.2) (c:=f*rx.1) (bH (by trivial) (by trivial)) ?_).neg
    rw[show 2*k*rx.2*(f*rx.1)=f*k*(rx.1*rx.2+rx.1*rx.2) by grind]
    have :=q.neg
    rw[tZ]at this;exact this
   have s1:Sm 42 c1:=by
    have q:=t
    rw[ha.e2,hk]at q
    rw[hf.e1]
    refine(de (g:=k*rx.2) (c:=f*rx.2) (bH M (by trivial)) ?_).mono (show 8<=42 by decide)
    rw[show k*rx.2*(f*rx.2)=f*k*(rx.2*rx.2) by grind];exact q
   exact bW n hd (by rw[s]) (Gk hf hb s0 s1 (j.mono (by decide)) (p.mono (by decide)) λys C=>E ys ⟨C.asc,λh=>by rw[C.mem];simp⟩)
theorem NW(B:aP G){D:Nat}(hs:aG G D nu):ao G (D+1) "dispersions" Bg:=eD B (i:=84) (by kernel_rfl) hs λvs Q h=>by
 apply bI h;intro v0 v1 h0
 apply bL h0;intro p h1
 apply bL h1;intro q hq
 try clear h1
 try clear h0
 try clear h
 revert q
 revert p
 exact l4 (λa h=>h.elim) (λa a h=>h.elim) (λa0 a1=>l4 (λh=>h.elim) (λa h=>h.elim) (λc b hq=>N4 B hs hq) (λa a a h=>h.elim) (λa a a a h=>h.elim) (λa a a a a a h=>h.elim))
  (λa0 a1 a2=>l4 (λh=>h.elim) (λa h=>h.elim) (λc b hq=>Uq B hs hq) (λa a a h=>h.elim) (λa a a a h=>h.elim) (λa a a a a a h=>h.elim)) (λa a a a a h=>h.elim) (λa a a a a a a h=>h.elim)
end
section
variable {G:aK} {d:Nat} {Γ:Fm} {S:St}
def RH(l:List Int)(f:Int×Int)(Q:List Int->Prop):Prop:=match l with
 | [a]=>(Sm 1000 a/\Sm 1000 f.1/\Sm 1000 f.2)/\Q [a*f.1,a*f.2]
 | [a,b]=>(Sm 1000 a/\Sm 1000 b/\Sm 1000 f.1/\Sm 1000 f.2)/\Q [a*f.1,a*f.2+b*f.1,b*f.2]
 |_=>False
def Bn:aM:=λvs Q=>a2 (λv0 v1=>bq v0 λl=>du v1 λf=>RH l f λr=>Q (.l .I r)) vs
def QT(l:List Int)(n:Int)(Q:Int->Prop):Prop:=match l with
 | [a,b]=>(Sm 1000 a/\Sm 1000 b/\Sm 1000 n)/\Q (a+b*n)
 | [a,b,c]=>(Sm 1000 a/\Sm 1000 b/\Sm 1000 c/\Sm 1000 n)/\Q (a+b*n+c*(n*n))
 |_=>False
def Ag:aM:=λvs Q=>a2 (λv0 v1=>bq v0 λl=>br v1 λn=>QT l n λx=>Q (.i x)) vs
theorem Vb(B:aP G):ao G 1 "_law_times" Bn:=eD B (i:=88) (D:=0) (sp:=[]) (by kernel_rfl) (λp h=>nomatch h) λvs Q h=>by
 obtain⟨v0,v1,rfl,h0⟩:=Jf h
 obtain⟨l,rfl,h1⟩:=sF h0
 obtain⟨⟨p,q⟩,rfl,hq⟩:=Gi h1
 have ok: ∀{x y:Int},Sm 1000 x->Sm 1000 y->aq x y=true:=λh1 h2=>Sm.ok h1 h2 (by decide) (by decide)
 try clear h1
 try clear h0
 try clear h
 revert hq
 revert l
 refine l4 ?_ ?_ ?_ ?_ ?_ ?_
 ·exact λh=>h.elim
 ·intro a e
  refine aj λg=>?_
  obtain⟨⟨sa,sp,sq⟩,hq⟩:=e
  refine g ?_
  refine⟨rfl,λd Γ hd f j=>bW f hd (by simp only[j]) (aX (A:=gd 88 [] ["found"] [.l .I [a],rV (p,q)] (aB Q)) (B:=(((-9223372036854775808:Int)<=(2:Int)/\(2:Int)< (9223372036854775808:Int)/\(2:Nat)<=(16777216:Nat))/\aq a p=true/\aq a q=true/\((0:Int)<=(0:Int)/\(0:Int)< (2:Int))/\((0:Int)<=(1:Int)/\(1:Int)< (2:Int))/\Q (V.l K.I [(0:Int)+a*p,(0:Int)+a*q]))) (by kernel_rfl) ⟨⟨by decide,by decide,by decide⟩,ok sa sp,ok sa sq,⟨by decide,by decide⟩,⟨by decide,by decide⟩,?_⟩)⟩
  simp only[lg,lg];exact hq
 ·intro a b e
  refine aj λg=>?_
  obtain⟨⟨sa,k,sp,sq⟩,hq⟩:=e
  refine g ?_
  refine⟨rfl,λd Γ hd f j=>bW f hd (by simp only[j]) (aX (A:=gd 88 [] ["found"] [.l .I [a,b],rV (p,q)] (aB Q)) (B:=(((-9223372036854775808:Int)<=(3:Int)/\(3:Int)< (9223372036854775808:Int)/\(3:Nat)<=(16777216:Nat))/\aq a p=true/\aq a q=true/\((0:Int)<=(0:Int)/\(0:Int)< (3:Int))/\((0:Int)<=(1:Int)/\(1:Int)< (3:Int))/\aq b p=true/\aq b q=true/\((0:Int)<=(1:Int)/\(1:Int)< (3:Int))/\((0:Int)<=(2:Int)/\(2:Int)< (3:Int))/\Q (V.l K.I [(0:Int)+a*p,(0:Int)+a*q+b*p,(0:Int)+b*q]))) (by kernel_rfl) ⟨⟨by decide,by decide,by decide⟩,ok sa sp,ok sa sq,⟨by decide,by decide⟩,⟨by decide,by decide⟩,ok k sp,ok k sq,⟨by decide,by decide⟩,⟨by decide,by decide⟩,?_⟩)⟩
  simp only[lg,lg,lg];exact hq
 ·exact λc c c h=>h.elim
 ·exact λc c c c h=>h.elim
 ·exact λc c c c c c h=>h.elim
theorem Vz (B : aP G) : ao G 1 "_law_value" Ag := eD B (i := 89) (D := 0) (sp := []) (by kernel_rfl) (λp h => nomatch h) λvs Q h => by
  apply bI h; intro v0 v1 h0
  apply bL h0; intro l h1
  apply dI h1; intro n hq
  have ok : ∀ (k : Nat) {x : Int}, k <= 2 -> Sm 1000 n -> Sm 1000 x -> ((0 : Int) <= k /\ ce n ((k : Int).toNat) = true) /\ aq x (n ^ ((k : Int).toNat)) = true := λk x hk sn q =>
    ⟨⟨by trivial, jH sn (by decide) (by trivial)⟩, Sm.ok q ((sn.pow ((k : Int).toNat)).mono (show 1000 * ((k : Int).toNat) + 1 <= 3000 by trivial)) (by decide) (by decide)⟩
  have p2 : n ^ 2 = n * n := by rw [show (2 : Nat) = 1 + 1 from rfl, ki, oG]
  try clear h1
  try clear h0
  try clear h
  revert hq
  revert l
  refine l4 ?_ ?_ ?_ ?_ ?_ ?_
  · exact λh => h.elim
  · exact λe h => h.elim
  · intro a b j
    refine aj λf => ?_
    obtain ⟨⟨sa, g, sn⟩, hq⟩ := j
    refine f ?_
    refine ⟨rfl, λd Γ hd m o => bW m hd (by rw [o]) (aX (A := gd 89 [] [] [.l .I [a, b], .i n] (aB Q)) (B := ((2 : Nat) <= (1000000 : Nat) /\ ∃ F : K.D K.R -> K.D K.I, (∀ (x : K.D K.R), x ∈ [((0 : Int), a), ((1 : Int), b)] -> ((0 : Int) <= ai x /\ ce n (bY (ai x)) = true) /\ aq (ak x) (n ^ bY (ai x)) = true /\ K.of K.I (V.i (ak x * n ^ bY (ai x))) = some (F x) /\ [(al "n", Sl.val (V.i n))] = [(al "n", Sl.val (V.i n))]) /\ Q (V.i (preSum (λi => Option.getD [F ((0 : Int), a), F ((1 : Int), b)][i]? (0 : Int)) (2 : Nat))))) (by kernel_rfl) ⟨by decide, λx => x.2 * n ^ x.1.toNat, λx hx => ?_, ?_⟩)⟩
    · rcases bz.mp hx with rfl | hx
      · obtain ⟨q1, q2⟩ := ok 0 (by decide) sn sa
        exact ⟨q1, q2, rfl, rfl⟩
      · rw [bC.mp hx]
        refine aj λf => ?_
        obtain ⟨q1, q2⟩ := ok 1 (by decide) sn g
        refine f ?_
        exact ⟨q1, q2, rfl, rfl⟩
    · show Q (.i (0 + a * n ^ 0 + b * n ^ 1))
      simp only [fp, oG, dh, lg]; exact hq
  · intro a b c j
    refine aj λf => ?_
    obtain ⟨⟨sa, g, sc, sn⟩, hq⟩ := j
    refine f ?_
    refine ⟨rfl, λd Γ hd m o => bW m hd (by rw [o]) (aX (A := gd 89 [] [] [.l .I [a, b, c], .i n] (aB Q)) (B := ((3 : Nat) <= (1000000 : Nat) /\ ∃ F : K.D K.R -> K.D K.I, (∀ (x : K.D K.R), x ∈ [((0 : Int), a), ((1 : Int), b), ((2 : Int), c)] -> ((0 : Int) <= ai x /\ ce n (bY (ai x)) = true) /\ aq (ak x) (n ^ bY (ai x)) = true /\ K.of K.I (V.i (ak x * n ^ bY (ai x))) = some (F x) /\ [(al "n", Sl.val (V.i n))] = [(al "n", Sl.val (V.i n))]) /\ Q (V.i (preSum (λi => Option.getD [F ((0 : Int), a), F ((1 : Int), b), F ((2 : Int), c)][i]? (0 : Int)) (3 : Nat))))) (by kernel_rfl) ⟨by decide, λx => x.2 * n ^ x.1.toNat, λx hx => ?_, ?_⟩)⟩
    · rcases bz.mp hx with rfl | hx
      · obtain ⟨q1, q2⟩ := ok 0 (by decide) sn sa
        exact ⟨q1, q2, rfl, rfl⟩
      · rcases bz.mp hx with rfl | hx
        · obtain ⟨q1, q2⟩ := ok 1 (by decide) sn g
          exact ⟨q1, q2, rfl, rfl⟩
        · rw [bC.mp hx]
          refine aj λf => ?_
          obtain ⟨q1, q2⟩ := ok 2 (by decide) sn sc
          refine f ?_
          exact ⟨q1, q2, rfl, rfl⟩
    · show Q (.i (0 + a * n ^ 0 + b * n ^ 1 + c * n ^ 2))
      simp only [fp, oG, dh, lg, p2]; exact hq
  · exact λe e e e h => h.elim
  · exact λe e e e e e h => h.elim
end
section
variable {G:aK} {d:Nat} {Γ:Fm} {S:St}
noncomputable def C9(a:aw)(ps:List ag)(vs:List V)(x:ag):ag×Sl:=(x,if x=("box":ag)then .bx a else uF ((ps.zip vs).lookup x))
noncomputable def xt(df:kd)(a:aw)(vs:List V):Sg:=⟨(fh df.scope.names).map (C9 a (df.params.args.map (·.arg)).tail vs),(eU df.scope.names).map (C9 a (df.params.args.map (·.arg)).tail vs)⟩
theorem Aq{a:aw}{bs:List T}(hb:jn bs){ps:List ag}{vs:List V}: ∀(xs:List ag),dJ (xs.map (C9 a ps vs)) (xs.map (ph "box" a bs (ps.zip (vs.map V.t))))
 | []=>.nil
 |x::xs=>by
  refine .cons ?_ (Aq hb xs)
  by_cases e:x=("box":ag)
  ·rw[if_pos e,if_pos e];exact .bx hb
  ·rw[if_neg e,if_neg e];exact IW x
def Jk(nm:NM)(a:aw)(σ:Sg):Prop:=match fM σ.l ("box":ag)with
 |some (.bx b)=>b=a
 |some _=>False
 |none=>match fM σ.c ("box":ag)with
  |some (.bx b)=>bif nd ("box":ag)&&dz (nm.lookup ("box":ag)) .cell then b=a else False
  |_=>False
def qd(nm:NM)(a:aw)(Q:V->Prop)(o:aC)(σ:Sg):Prop:=aB Q o σ/\Jk nm a σ
theorem PD{nm:NM}{a:aw}{Q:V->Prop}{o:aC}{σ:Sg}(hn:Γ.env.scope.names=nm)(hs:aN σ S)(h:qd nm a Q o σ):aB Q o σ/\∃bs,jn bs/\dp Γ S "box" a bs:=by
 refine⟨h.1,?_⟩
 have h:=h.2
 unfold Jk at h
 cases q:fM σ.l ("box":ag)with
 |some s=>
  rw[q]at h
  obtain⟨s,m,k⟩:=hs.l.get q
  induction m with
  | @bx b ts e=>
   have h:b=a:=h
   subst h
   obtain⟨l',d,_⟩:=k (.own b ts);exact⟨ts,e,.l d.self⟩
  |_=>exact h.elim
 |none=>
  rw[q]at h
  cases q2:fM σ.c ("box":ag)with
  |none=>rw[q2]at h;exact h.elim
  |some s=>
   rw[q2]at h
   obtain⟨s,m,k⟩:=hs.c.get q2
   induction m with
   | @bx b ts e=>
    obtain⟨c,h⟩:=cQ h
    rw[cO]at c
    have h:b=a:=h
    subst h
    obtain⟨l',d,_⟩:=k (.own b ts);exact⟨ts,e,.c d.self (m7 hn c.2) (qv c.1)⟩
   |_=>exact h.elim
def mf(G:aK)(D:Nat)(f:ag)(s:aM):Prop:=rN G f/\∀vs Q d bs,s vs Q->D<=d->jn bs->sI G d f bs (vs.map V.t) λt cx=>jn cx/\CP Q t
def rO(G:aK)(D:Nat)(sp:cp):Prop:=∀p∈sp,mf G D p.1 p.2
def lk(sp:cp)(f:ag)(vs:List V)(Q:V->Prop):Prop:=match sp.lookup f with
 |some s=>s vs Q
 |none=>False
theorem Ge{sp:cp}{f:ag}{vs:List V}{Q:V->Prop}(h:lk sp f vs Q): ∃s,(f,s)∈sp/\s vs Q:=by
 unfold lk at h
 cases e:sp.lookup f with
 |none=>rw[e]at h;exact h.elim
 |some s=>rw[e]at h;exact⟨s,mem_of_lookup e,h⟩
noncomputable def w8(sp iu:cp):bK:=⟨λf=>(sp.lookup f).isSome ||(iu.lookup f).isSome,lk sp,lk iu,yr⟩
theorem aP.prgB(B:aP G){sp iu:cp}{D:Nat}(h:aG G D sp)(hB:rO G D iu):bU G (w8 sp iu) D:=
 {B.prg h with
  fns:=λf hf=>by
   rcases(v9 _ _).mp hf with hf|hf
   ·obtain⟨s,e⟩:=or.mp hf
    exact(h (f,s) (mem_of_lookup e)).1
   ·obtain⟨s,e⟩:=or.mp hf
    exact(hB (f,s) (mem_of_lookup e)).1
  spec:=λf vs Q d hs hd=>by
   obtain⟨s,hm,hs⟩:=Ge hs
   exact(h _ hm).2 vs Q d hs hd
  specB:=λf vs Q d bs hs hd hb=>by
   obtain⟨s,hm,hs⟩:=Ge hs
   exact(hB _ hm).2 vs Q d bs hs hd hb}
noncomputable def Dq(df:kd):Bool:=(df.params.args.map (·.arg)).head?==some ("box":ag)&&(((fh df.scope.names).contains ("box":ag))!=((eU df.scope.names).contains ("box":ag)))
theorem IC(B:aP G){f:ag}{i:Nat}{s:aM}{D:Nat}(hi:nj.lookup f=some i)(b:Dq (au i)=true)
  (h: ∀vs Q,s vs Q->vs.length+1=(au i).params.args.length/\∀d (Γ:Fm) a bs,D<=d->jn bs->Γ.env.scope=(au i).scope->eH G d Γ (startB (au i).scope.names "box" a bs ((((au i).params.args.map (·.arg)).tail).zip (vs.map V.t))) (au i).body λo S'=>∃t cx,(o= .ret t\/(o= .next/\t= .none))/\dp Γ S' "box" a cx/\jn cx/\CP Q t):mf G (D+1) f s:=by
 have hd:=J8 B.p hi
 refine⟨hd.fn,λvs Q d bs hs hD hb=>?_⟩
 refine aj λg=>?_
 obtain⟨d,rfl⟩: ∃e,d=e+1:=⟨d-1,by lia⟩
 obtain⟨hl,hw⟩:=h vs Q hs
 simp only[Dq,cO,beq_iff_eq,bne_iff_ne]at b
 obtain⟨h1,h2⟩:=b
 refine g ?_
 have c:(au i).params.args.map (·.arg)=("box":ag)::((au i).params.args.map (·.arg)).tail:=by
  cases q:(au i).params.args.map (·.arg)with
  |nil=>rw[q]at h1;cases h1
  |cons x xs=>rw[q]at h1;cases h1;rfl
 have :=congrArg aR c
 rw[bi,ze]at this
 rw[← hd.name]
 refine sI.ofDef hd.mem hd.bind hd.good c (by rw[bi];(first |lia|omega)) ?_ λΓ a j=>hw d Γ a bs (by first |lia|omega) hb j
 cases q1:(fh (au i).scope.names).contains ("box":ag)<;>cases q2:(eU (au i).scope.names).contains ("box":ag)<;>rw[q1,q2]at h2
 ·exact absurd rfl h2
 ·exact .inr ⟨(λh=>by rw[tP.mpr h]at q1;cases q1),tP.mp q2⟩
 ·exact .inl ⟨tP.mp q1,λh=>by rw[tP.mpr h]at q2;cases q2⟩
 ·exact absurd rfl h2
abbrev Rl(i:Nat)(sp iu:cp)(mt:List ag)(a:aw)(vs:List V)(Q:V->Prop):Prop:=mD (w8 sp iu) 20 (au i).scope.names mt 4 (xt (au i) a vs) (au i).body (qd (au i).scope.names a Q)
theorem GL(B:aP G){f:ag}{i:Nat}{s:aM}{D:Nat}{sp iu:cp}(hi:nj.lookup f=some i)(j:Dq (au i)=true)(k:aG G D sp)(b:rO G D iu)
  (h: ∀vs Q,s vs Q->vs.length+1=(au i).params.args.length/\∀d (Γ:Fm) a,D<=d->bU G (w8 sp iu) D->Γ.env.scope=(au i).scope->WS G d Γ (xt (au i) a vs) (au i).body (qd (au i).scope.names a Q)):mf G (D+1) f s:=
 IC B hi j λvs Q hs=>⟨(h vs Q hs).1,λd Γ a bs hD hb g=>((h vs Q hs).2 d Γ a hD (B.prgB k b) g _ (show aN (xt (au i) a vs) (startB _ _ _ _ _)from⟨Aq hb _,Aq hb _⟩)).mono λo S' w=>by
  obtain⟨ov,σ,e,s,q⟩:=w
  subst e
  obtain⟨q,cx,c,ho⟩:=PD (by rw[g]) s q
  induction ov with
  |next=>exact⟨.none,cx,.inr ⟨rfl,rfl⟩,ho,c,.no,rfl,q⟩
  |ret v=>exact⟨v.t,cx,.inl rfl,ho,c,v,rfl,q⟩⟩
def uf:aM:=λvs Q=>a1 (λv0=>br v0 λm=>0<m/\∀r,0<=r->r<m->Q (.i r)) vs
theorem Rj{ts:List T}{k:Int}(h0:0<=k)(h1:k<ts.length):io ts k=ts[k.toNat]? :=by unfold io;rw[if_pos h0]
theorem Jn:dz ((au 86).scope.names.lookup ("len":ag)) .globalImplicit=true/\dz ((au 86).scope.names.lookup ("abs":ag)) .globalImplicit=true:=by constructor<;>kernel_rfl
noncomputable def kr(b:aw)(ns:List Int)(k m:Int):St:=⟨[("box",.own b [.list (ns.map .int),.int k]),("many",.val (.int m))],[]⟩
theorem vj{b:aw}{ns:List Int}{k m:Int}{j:Nat}{p p2 pos:ax}{Q:T->St->Prop}(h:Q (.int k) (kr b ns k m)):Ev G d Γ (kr b ns k m) (.Subscript (.Name "box" p) (.Constant (.int 1) j p2) pos) Q:=
 Ev.indexOwn rfl (.l .head) (Ev.int ⟨1,.int k,_,rfl,.l .head,rfl,h⟩)
theorem aY{b:aw}{ns:List Int}{k m:Int}{j:Nat}{p p2 pos:ax}{Q:T->St->Prop}(h:Q (.list (ns.map .int)) (kr b ns k m)):Ev G d Γ (kr b ns k m) (.Subscript (.Name "box" p) (.Constant (.int 0) j p2) pos) Q:=
 Ev.indexOwn rfl (.l .head) (Ev.int ⟨0,.list (ns.map .int),_,rfl,.l .head,rfl,h⟩)
inductive xo(Γ:Fm)(b:aw)(ns:List Int)(k m:Int)(o:cC)(S':St):Prop
 |mk (r:Int) (e:o= .ret (.int r)) (es:S'=kr b ns k m) (r0:0<=r) (r1:r<m)
theorem Ih{b:aw}{ns:List Int}{k m x:Int}{p:ax}(hm:0<m){Q:T->St->Prop}(h: ∀r:Int,0<=r->r<m->Q (.int r) (kr b ns k m)):Ev G d Γ (kr b ns k m) (.Name "many" p) λu S2=>∃c,dC G .Mod (.int x) u c/\Q c S2:=
 Ev.name (.tail .head) ⟨_,dC.mod (if_pos (by omega)),h _ (MB x hm) (Fz x hm)⟩
theorem RT{ns:List Int}{k:Int}(h0:0<=k)(bB:k+1<=ns.length):io (ns.map T.int) (k+1-1)=some (.int (ns.getD k.toNat 0)):=by
 have h:k.toNat<ns.length:=by(first |lia|omega)
 rw[show k+1-1=k by(first |lia|omega),Rj h0 (by rw[bi];omega),jd,mV,kT h]
 rfl
theorem OU(hlen:cI G "len" (.builtin "len"))(a:cI G "abs" (.builtin "abs"))(c:Γ.env.scope=(au 86).scope){b:aw}{ns:List Int}{k m:Int}(h0:0<=k)(hm:0<m):eH G d Γ (kr b ns k m) (au 86).body (xo Γ b ns (k+1) m):=by
 have kl:Γ.env.kindOf ("len":ag)=some .globalImplicit:=by unfold zt;rw[c];exact ql Jn.1
 have g:Γ.env.kindOf ("abs":ag)=some .globalImplicit:=by unfold zt;rw[c];exact ql Jn.2
 have st:Ex G d Γ (kr b ns k m) (lp (au 86).body 0) λo S'=>o= .next/\S'=kr b ns (k+1) m:=Ex.subStore rfl (Ev.bin (vj (Ev.int ⟨.int (k+1),dC.add,o6.own rfl (.l .head) (Ev.int ⟨1,_,_,_,rfl,.l .head,(by decide),(show 1< 2 by decide),⟨_,.head,rfl⟩,rfl,rfl⟩)⟩)))
 have rt:Ex G d Γ (kr b ns (k+1) m) (lp (au 86).body 2) (xo Γ b ns (k+1) m):=Ex.retE (Ev.bin (Ev.bin (Ev.bin (Ev.int (vj ⟨.int (5*(k+1)),dC.mul rfl,Ev.bin (vj (Ev.int ⟨.int (bg (k+1) 3),dC.div (if_pos ⟨by decide,by decide⟩),_,dC.add,Ih hm λr r0 r1=>⟨r,rfl,rfl,r0,r1⟩⟩))⟩)))))
 have yes:k+1<=ns.length->eH G d Γ (kr b ns (k+1) m) (sX (lp (au 86).body 1)) (xo Γ b ns (k+1) m):=λhc=>eH.cons (Ex.mono (Q:=xo Γ b ns (k+1) m) (Ex.retE (Ev.bin (Ev.callBuiltin a (.b _) g (by decide) rfl (b8.cons rfl (Ev.index rfl (aY (Ev.bin (vj (Ev.int ⟨_,dC.sub,k+1-1,_,rfl,.inl ⟨_,rfl,RT h0 hc⟩,b8.nil ⟨_,cY.abs,Ih hm λr r0 r1=>⟨r,rfl,rfl,r0,r1⟩⟩⟩))))))))) λo S1 w=>⟨(λe=>by obtain⟨_,e2,_⟩:=w;rw[e]at e2;cases e2),λt e=>by rw[← e];exact w⟩)
 refine eH.cons (st.mono λo S1 w=>⟨λf=>?_,λt e=>by rw[w.1]at e;cases e⟩)
 rw[w.2]
 refine eH.cons (Ex.ifS (Tr.cmp rfl (vj (Ev.callBuiltin hlen (.b _) kl (by decide) rfl (b8.cons rfl (aY (b8.nil ⟨_,cY.len,_,cK.le,λhc=>?_,λhc=>?_⟩)))))))
 ·have hc:=of_decide_eq_true hc
  rw[bi]at hc
  exact(yes hc).mono λo S1 w=>⟨(λe=>by obtain⟨_,e2,_⟩:=w;rw[e]at e2;cases e2),λt e=>by rw[← e];exact w⟩
 ·exact eH.nil ⟨λf=>eH.cons (rt.mono λo S1 w=>⟨(λe=>by obtain⟨_,e2,_⟩:=w;rw[e]at e2;cases e2),λt e=>by rw[← e];exact w⟩),λt e=>by cases e⟩
theorem Tt(b:aw)(bs:List T)(m:Int):startB (au 86).scope.names "box" b bs ((((au 86).params.args.map (·.arg)).tail).zip ([V.i m].map V.t))=⟨[("box",.own b bs),("many",.val (.int m))],[]⟩:=by kernel_rfl
theorem Vo(B:aP G):mf G 1 "_law_take" uf:=IC B (i:=86) (D:=0) (by kernel_rfl) (by kernel_rfl) λvs Q h=>by
 apply cu h;intro v0 h0
 apply dI h0;intro m c
 obtain⟨hm,hq⟩:=c
 refine⟨rfl,λd Γ a bs hD hb f=>?_⟩
 refine aj λb=>?_
 obtain⟨ns,k,rfl,h0⟩:=hb
 refine b ?_
 rw[Tt]
 refine(OU (B.blt _ _ (.head _)) (B.blt _ _ (.tail _ (.head _))) f h0 hm).mono λo S' w=>?_
 refine aj λb=>?_
 obtain⟨r,e,es,r0,r1⟩:=w
 refine b ?_
 rw[es]
 exact⟨_,_,.inl e,.l .head,⟨ns,k+1,rfl,by lia⟩,.i r,rfl,hq r r0 r1⟩
end
section
variable {G:aK} {d:Nat} {Γ:Fm} {S:St}
structure db(z:Int×Int):Prop where
 n:b7 z
 b:z.2=1\/z.2=2
 s:Sm 32 z.1
def HV:aM:=λvs Q=>a1 (λv0=>br v0 λfar=>(0<=far/\far<=1000000000)/\∀z,db z->Q (rV z)) vs
noncomputable abbrev ma:cp:=[("_law_take",uf)]
theorem Tx{D:Nat}(h:mf G D "_law_take" uf):rO G D ma:=λp hp=>by rw[bC.mp hp];exact h
theorem Wn(B:aP G)(j:mf G 1 "_law_take" uf):mf G 2 "_law_root" HV:=GL B (i:=87) (D:=1) (sp:=[]) (by kernel_rfl) (by kernel_rfl) (λp h=>nomatch h) (Tx j) λvs Q h=>by
 apply cu h;intro v0 h0
 apply dI h0;intro far l
 refine aj λm=>?_
 obtain⟨⟨f0,f1⟩,hq⟩:=l
 refine m ?_
 refine⟨rfl,λd Γ aY hd k n=>bW k hd (by rw[n]) (aX (A:=Rl 87 [] ma [] aY [.i far] Q) (B:=(0< (2:Int)/\∀(r:Int),0<=r->r< (2:Int)->0< (9:Int)/\∀(f:Int),0<=f->f< (9:Int)->0< (3:Int)/\∀(e:Int),0<=e->e< (3:Int)->aq far e=true/\aE (r==1) (aq (2:Int) (f-(4:Int)+far*e)=true/\Q (V.t2 (V.i ((2:Int)*(f-(4:Int)+far*e)+1)) (V.i (2:Int)))/\aY=aY) (Q (V.t2 (V.i (f-(4:Int)+far*e)) (V.i 1))/\aY=aY))) (by kernel_rfl) ⟨by decide,λr g g=>⟨by decide,λw w0 w1=>⟨by decide,λv u0 u1=>?_⟩⟩⟩)⟩
 have hv:0<=far*v/\far*v<=2000000000:=by
  rcases(by lia:v=0\/v=1\/v=2)with rfl|rfl|rfl<;>lia
 have sm: ∀{x:Int}, -4294967296<x->x<4294967296->Sm 32 x:=λh1 h2=>Sm.iff.mpr (show _<4294967296 by lia)
 refine⟨Sm.ok (sm (x:=far) (by lia) (by lia)) (sm (x:=v) (by lia) (by lia)) (by decide) (by decide),?_⟩
 refine cw (λg=>⟨rfl,hq (_,2) ⟨⟨(by decide:(0:Int)<2),?_⟩,.inr rfl,sm (by lia) (by lia)⟩,rfl⟩) (λg=>⟨hq (_,1) ⟨⟨p7,Int.gcd_one_right _⟩,.inl rfl,sm (by lia) (by lia)⟩,rfl⟩)
 show bp (2*(w-4+far*v)+1) 2=1
 have h3:=Int.dvd_sub (zU (a:=2*(w-4+far*v)+1) (b:=2)) (Int.dvd_mul_of_dvd_left (c:=w-4+far*v) (zV (a:=2*(w-4+far*v)+1) (b:=2)))
 simp only[show 2*(w-4+far*v)+1-2*(w-4+far*v)=(1:Int) by lia]at h3
 exact Nat.dvd_one.mp (Int.natCast_dvd_natCast.mp h3)
end
section
variable {G:aK} {d:Nat} {Γ:Fm} {S:St}
abbrev jl(i:Nat)(sp iu:cp)(mt:List ag)(σ:Sg)(l:List aW)(Q:aC->Sg->Prop):Prop:=mD (w8 sp iu) 20 (au i).scope.names mt 4 σ l Q
noncomputable def xJ(far:Int)(ys:List Int)(n:Int)(aY:aw):Sg:=⟨[("places",.own .I ys),("n",.any),("value",.any),("place",.any),("row",.any),("due",.any)],[("told",.any),("numbers",.own .I []),("last",.val (.i n)),("far",.val (.i far)),("box",.bx aY)]⟩
noncomputable def yp(ys:List Int)(c v a:Int)(ms rs:List Int)(n far:Int)(aY:aw):Sg:=⟨[("places",.val (.l .I ys)),("n",.val (.i c)),("value",.val (.i v)),("place",.val (.i a)),("row",.val (.l .I rs)),("due",.any)],[("told",.any),("numbers",.val (.l .I ms)),("last",.val (.i n)),("far",.val (.i far)),("box",.bx aY)]⟩
def wL(t u:Sl)(n far:Int)(aY:aw):Prop:=(⟨("told":ag),t⟩::⟨("numbers":ag),u⟩::⟨("last":ag),.val (.i n)⟩::⟨("far":ag),.val (.i far)⟩::⟨("box":ag),.bx aY⟩::[]:SL)=⟨("told":ag),t⟩::⟨("numbers":ag),u⟩::⟨("last":ag),.val (.i n)⟩::⟨("far":ag),.val (.i far)⟩::⟨("box":ag),.bx aY⟩::[]
def VS(far:Int)(aY:aw):Prop:=(⟨("told":ag),.any⟩::⟨("numbers":ag),.any⟩::⟨("last":ag),.any⟩::⟨("far":ag),.val (.i far)⟩::⟨("box":ag),.bx aY⟩::[]:SL)=⟨("told":ag),.any⟩::⟨("numbers":ag),.any⟩::⟨("last":ag),.any⟩::⟨("far":ag),.val (.i far)⟩::⟨("box":ag),.bx aY⟩::[]
noncomputable abbrev mZ:cp:=[("first_differences",wO),("whole_zeros",wV),("told_by",yl),("_law_value",Ag)]
def IR:aM:=λvs Q=>a1 (λv0=>br v0 λfar=>(0<=far/\far<=1000000000)/\Q (.b true)) vs
theorem CM: ∀{xs ys:List Int},xs.Pairwise (· < ·)->ys.Pairwise (· < ·)->(∀k,k∈xs↔k∈ys)->xs=ys
 | [],[],_,_,_=>rfl
 | [],y::ys,_,_,h=>nomatch (h y).mpr (.head _)
 |x::xs,[],_,_,h=>nomatch (h x).mp (.head _)
 |x::xs,y::ys,hx,j,h=>by
  obtain⟨x1,i⟩:=FR.mp hx
  obtain⟨d,g⟩:=FR.mp j
  have le: ∀{a b:Int} {as bs:List Int},(∀c∈bs,b<c)->a∈b::bs->b<=a:=λhb ha=>by
   rcases bz.mp ha with e|e
   ·lia
   ·exact bZ (hb _ e)
  have e:x=y:=zy (le (as:=xs) x1 ((h y).mpr (.head _))) (le (as:=xs) d ((h x).mp (.head _)))
  subst e
  have drop: ∀{k:Int} {as bs:List Int},(∀c∈as,x<c)->(k∈x::as->k∈x::bs)->k∈as->k∈bs:=λha f hk=>by
   rcases bz.mp (f (.tail _ hk))with e|e
   ·exact absurd (ha _ hk) (by lia)
   ·exact e
  rw[CM i g λk=>⟨drop x1 (h k).mp,drop d (h k).mpr⟩]
theorem ID{ps:List Int}{n:Int}{rs:List (Int×Int)}{ms ys:List Int}(a:jE rs n ys)(h1:ms.Pairwise (· < ·))(h2: ∀k,k∈ms↔∃b,(k,b)∈(ps.filter (λx=>decide (x<=n))).map (λx=>(x,true)))(hp: ∀p∈ps,0<=p)(hr: ∀k,(k,1)∈rs↔k∈ps):(ys !=ms)=false:=by
 have e:ys=ms:=CM a.asc h1 λk=>by
  simp only[a.mem,h2,hr]
  constructor
  ·intro⟨_,b,c⟩;exact⟨true,bF.mpr ⟨k,ke.mpr ⟨c,decide_eq_true b⟩,rfl⟩⟩
  ·intro⟨b,c⟩
   obtain⟨x,hx,e⟩:=bF.mp c
   cases e
   obtain⟨m,l⟩:=ke.mp hx
   exact⟨hp _ m,of_decide_eq_true l,m⟩
 rw[e];simp
theorem yo(p:Int):b7 (p,1):=⟨p7,Int.gcd_one_right _⟩
theorem WS.cut{σ:Sg}{l:List aW}{Q:aC->Sg->Prop}(k:Nat)(h:WS G d Γ σ (l.take k) (qB G d Γ (l.drop k) Q)):WS G d Γ σ l Q:=by
 have :=WS.app h
 rwa[iJ]at this
theorem Jz{p q k:Int}:k∈[p,q]↔k=p\/k=q:=by simp
theorem GO{x y:Int}(h:x=y):(x !=y)=false:=by rw[h];exact bne_self_eq_false _
def As(ps:List Int)(n:Int)(cl:Prop)(X:List Int->Prop):Prop:=ps.length<=1000000/\∃(k:K) (B:Int->Bool) (F:Int->K.D k),(∀x:Int,x∈ps->decide (x<=n)=B x/\(B x=false->cl)/\(B x=true->K.of k (V.t2 (V.i x) (V.b true))=some (F x)/\cl))/\a9 (V.asIBs (V.l k ((ps.filter B).map F))) λc=>c.length<64/\∀ms:List Int,ms.Pairwise (λa b=>a<b)->(∀k:Int,k∈ms↔∃b,(k,b)∈c)->X ms
theorem Ju{ps:List Int}{n:Int}{cl:Prop}{X:List Int->Prop}(hl:ps.length<64)(d:cl)(h: ∀ms:List Int,ms.Pairwise (λa b=>a<b)->(∀k,k∈ms↔∃b,(k,b)∈(ps.filter (λx=>decide (x<=n))).map (λx=>(x,true)))->X ms):As ps n cl X:=
 ⟨aZ (eP hl) (by decide),.D',λx=>decide (x<=n),λx=>(x,true),λx c=>⟨rfl,λc=>d,λc=>⟨rfl,d⟩⟩,d7 (by rw[bi];exact rA _ _) hl,h⟩
def Al(ps a ms:List Int)(val:Int->Int)(ok:Int->Prop)(lead N:Int)(cl:Prop)(b:Bool->Prop):Prop:=ps.length<=1000000/\∃(B:Int->Bool) (F:Int->Int),(∀x:Int,x∈ps->ok x/\(val x !=0)=B x/\(B x=false->cl)/\(B x=true->K.of K.I (V.i x)=some (F x)/\cl))/\
 aE ((ps.filter B).map F != []) (b false) (bE N/\a.length<=1000000/\∃(B:Int->Bool) (F:Int->Int),(∀x:Int,x∈a->a9 (cg ms x) λm=>aq m lead=true/\ok x/\aq 3 (val x)=true/\(m*lead !=3*val x)=B x/\(B x=false->cl)/\(B x=true->K.of K.I (V.i x)=some (F x)/\cl))/\b ((a.filter B).map F== []))
theorem Iw(l:List Int):(l.filter λz_=>false).map (λx=>x)=[]:=by simp
inductive z5(ms:List Int)(val:Int->Int)(ok:Int->Prop)(lead x:Int):Prop
 |mk (m:Int) (hg:cg ms x=some m) (h1:aq m lead=true) (h2:ok x) (h3:aq 3 (val x)=true) (h4:m*lead=3*val x)
theorem It{ps b ms:List Int}{val:Int->Int}{ok:Int->Prop}{lead N:Int}{cl:Prop}{d:Bool->Prop}(hl:ps.length<=1000000)(hr:b.length<=1000000)(i:bE N)(c:cl)(h1: ∀x∈ps,ok x/\val x=0)(h2: ∀x∈b,z5 ms val ok lead x)(hq:d true):Al ps b ms val ok lead N cl d:=by
 refine⟨hl,λa=>false,λx=>x,λx hx=>⟨(h1 x hx).1,GO (h1 x hx).2,λa=>c,λe=>by cases e⟩,?_⟩
 rw[Iw]
 refine⟨i,hr,λa=>false,λx=>x,λx hx=>?_,by rw[Iw];exact hq⟩
 refine aj λj=>?_
 obtain⟨m,hg,h,k2,g,f⟩:=h2 x hx
 refine j ?_
 exact sw hg ⟨h,k2,g,GO f,λa=>c,λe=>by cases e⟩
theorem UA{far p n c v y m0 f d r0 r1 a:Int}{aY:aw}{Q:V->Prop}(n0:0<=n)(p0:0<=p)(sp:Sm 40 p)(hq:Q (.b true))(e0:m0= -(3*p))(e1:f=3-3*p)(e2:d=6-3*p)(h0:r0= -(3*p))(h1:r1=3)(h2:a=0):
  jl 90 mZ ma ["numbers"] (yp [p] c v y [m0,f,d] [r0,r1,a] n far aY) (((au 90).body.drop 2).drop 2) (qd (au 90).scope.names aY Q):=by
 have sr:Sm 60 r0:=h0▸(Sm.mul (j:=10) (show Sm 10 3 from rfl) sp).neg.mono (by decide)
 have r:Sm 60 r1:=h1▸rfl
 have s:Sm 60 a:=h2▸rfl
 refine aX (B:=As [p] n (wL (Sl.any) (.val (.l .I [m0,f,d])) n far aY) λms=>True/\∃rs,((0<=n/\3<=4)/\jC [r0,r1,a] rs/\∀(x:Int),x∈[r0,r1,a]->Sm 90 x)/\∀(ys:List Int),jE rs n ys->aE (ys !=ms) (Q (V.b false)/\aY=aY) ((Sm 200 r0/\Sm 200 r1/\Sm 200 a)/\(a=0->r1≠0/\∀(g c0 c1:Int),dt g [r0*6,r1*6] [c0,c1]->Al [p] [0,1,2] [m0,f,d] (λx=>c0+c1*x) (λx=>Sm 1000 c0/\Sm 1000 c1/\Sm 1000 x) c1 3 (wL (.val (.l .I [c0,c1])) (.val (.l .I [m0,f,d])) n far aY) λb=>Q (V.b b)/\aY=aY)/\(a≠0->∀(g c0 c1 c2:Int),dt g [r0*6,r1*6-a*3,a*3] [c0,c1,c2]->Q (V.b false)/\aY=aY))) (by kernel_rfl)
  (Ju (show 1<64 by decide) rfl λms a1 a2=>⟨trivial,[(p,1)],⟨⟨n0,by decide⟩,.inl ⟨h2,_,rfl,yo p,by lia,by unfold F2;rw[h0,h1];lia⟩,λx hx=>?_⟩,λys z=>wc (λw=>⟨⟨sr.mono (by decide),r.mono (by decide),s.mono (by decide)⟩,λw=>⟨by lia,λg c0 c1 hp=>?_⟩,λh=>absurd h2 h⟩) (λe=>?_)⟩)
 ·simp only[bz,gT,or_false]at hx
  rcases hx with e|e|e<;>simp only[e]
  ·exact sr.mono (by decide)
  ·exact r.mono (by decide)
  ·exact s.mono (by decide)
 ·obtain⟨t,g1,_⟩:=hp.two
  have s0:Sm 80 c0:=de hp.ne (t▸(sr.mul (show Sm 10 6 from rfl)).mono (by decide))
  have s1:Sm 80 c1:=de hp.ne (g1▸(r.mul (show Sm 10 6 from rfl)).mono (by decide))
  have u:c0= -(p*c1):=by
   refine k9 hp.ne ?_
   simp only[← t,k8,tX, ← g1,h0,h1];lia
  have i: ∀{x:Int},Sm 80 x->Sm 1000 x:=λh=>h.mono (by decide)
  have key: ∀(x m:Int),cg [m0,f,d] x=some m->m=3*(x-p)->Sm 60 x->z5 [m0,f,d] (λx=>c0+c1*x) (λx=>Sm 1000 c0/\Sm 1000 c1/\Sm 1000 x) c1 x:=λx m hg em o=>
   ⟨m,hg,em▸Sm.ok ((show Sm 5 3 from rfl).mul (o.sub sp)) s1 (by decide) (by decide),⟨i s0,i s1,o.mono (by decide)⟩,Sm.ok (show Sm 5 3 from rfl) (s0.add (s1.mul o)) (by decide) (by decide),by simp only[em,u];grind⟩
  refine It (show 1<=1000000 by decide) (show 3<=1000000 by decide) (fv (by decide) (by decide)) rfl (λx hx=>?_) (λx hx=>?_) ⟨hq,rfl⟩
  ·rw[bC.mp hx]
   exact⟨⟨i s0,i s1,sp.mono (by decide)⟩,by rw[u];grind⟩
  ·simp only[bz,gT,or_false]at hx
   rcases hx with e|e|e<;>simp only[e]
   ·exact key 0 m0 rfl (by lia) rfl
   ·exact key 1 f rfl (by lia) rfl
   ·exact key 2 d rfl (by lia) rfl
 ·rw[ID (ps:=[p]) z a1 a2 (λq hq=>by simp only[bC.mp hq];exact p0) (λk=>by simp)]at e
  cases e
theorem Wr{far p q n c v A m0 i f d r0 r1 a o:Int}{aY:aw}{Q:V->Prop}(n0:0<=n)(p0:0<=p)(q0:0<=q)(sp:Sm 30 p)(sq:Sm 30 q)(hq:Q (.b true))(e0:m0=3*((0-p)*(0-q)))(e1:i=3*((1-p)*(1-q)))(e2:f=3*((2-p)*(2-q)))(D:d=3*((3-p)*(3-q)))(h0:r0=3*(p*q))(h1:r1=3*(1-p-q))(h2:a=6)(h3:o=0):
  jl 90 mZ ma ["numbers"] (yp [p,q] c v A [m0,i,f,d] [r0,r1,a,o] n far aY) (((au 90).body.drop 2).drop 2) (qd (au 90).scope.names aY Q):=by
 have three:Sm 5 3:=rfl
 have one:Sm 5 1:=rfl
 have sr:Sm 75 r0:=h0▸(three.mul (sp.mul sq)).mono (by decide)
 have t:Sm 75 r1:=h1▸(three.mul ((one.sub sp).sub sq)).mono (show 5+(5+30+1+30+1)<=75 by decide)
 have r:Sm 75 a:=h2▸rfl
 have s:Sm 75 o:=h3▸rfl
 refine aX (B:=As [p,q] n (wL (Sl.any) (.val (.l .I [m0,i,f,d])) n far aY) λms=>True/\∃rs,((0<=n/\4<=4)/\jC [r0,r1,a,o] rs/\∀(x:Int),x∈[r0,r1,a,o]->Sm 90 x)/\∀(ys:List Int),jE rs n ys->aE (ys !=ms) (Q (V.b false)/\aY=aY) ((o=0/\a≠0/\Sm 200 r0/\Sm 200 r1/\Sm 200 a)/\∀(g c0 c1 c2:Int),dt g [r0*24,r1*24-a*12,a*12] [c0,c1,c2]->Al [p,q] [0,1,2,3] [m0,i,f,d] (λx=>c0+c1*x+c2*(x*x)) (λx=>Sm 1000 c0/\Sm 1000 c1/\Sm 1000 c2/\Sm 1000 x) c2 4 (wL (.val (.l .I [c0,c1,c2])) (.val (.l .I [m0,i,f,d])) n far aY) λb=>Q (V.b b)/\aY=aY)) (by kernel_rfl)
  (Ju (show 2<64 by decide) rfl λms a1 a2=>⟨trivial,[(p,1),(q,1)],⟨⟨n0,by decide⟩,⟨h3,by lia,_,_,rfl,yo p,yo q,⟨72,by decide,?_,?_,?_⟩,by show 1*1<=4;decide⟩,λx hx=>?_⟩,λys C=>wc (λz_=>⟨⟨h3,by lia,sr.mono (by decide),t.mono (by decide),r.mono (by decide)⟩,λg c0 c1 c2 hp=>?_⟩) (λe=>?_)⟩)
 ·rw[h0];show _=72*(p*q);grind
 ·rw[h1,h2];show _= -(72*(p*1+q*1));lia
 ·rw[h2];show 6*12=72*(1*1);decide
 ·simp only[bz,gT,or_false]at hx
  rcases hx with e|e|e|e<;>rw[e]
  ·exact sr.mono (by decide)
  ·exact t.mono (by decide)
  ·exact r.mono (by decide)
  ·exact s.mono (by decide)
 ·obtain⟨z,g1,g2,_⟩:=hp.three
  have tt:Sm 10 24:=rfl
  have s0:Sm 90 c0:=de hp.ne (z▸(sr.mul tt).mono (by decide))
  have s2:Sm 90 c2:=de hp.ne (g2▸(r.mul (show Sm 10 12 from rfl)).mono (by decide))
  have s1:Sm 200 c1:=de hp.ne (g1▸((t.mul tt).sub (r.mul (show Sm 10 12 from rfl))).mono (show 75+10+(75+10)+1<=200 by decide))
  have w:c0=p*q*c2:=by
   refine k9 hp.ne ?_
   rw[← z,tX, ← g2,h0,h2];grind
  have u:c1= -((p+q)*c2):=by
   refine k9 hp.ne ?_
   rw[← g1,k8,tX, ← g2,h1,h2];grind
  have y: ∀{k x},Sm k x->k<=1000->Sm 1000 c0/\Sm 1000 c1/\Sm 1000 c2/\Sm 1000 x:=λh l=>⟨s0.mono (by decide),s1.mono (by decide),s2.mono (by decide),h.mono l⟩
  have key: ∀(x m:Int),cg [m0,i,f,d] x=some m->m=3*((x-p)*(x-q))->Sm 5 x->z5 [m0,i,f,d] (λx=>c0+c1*x+c2*(x*x)) (λx=>Sm 1000 c0/\Sm 1000 c1/\Sm 1000 c2/\Sm 1000 x) c2 x:=λx m hg em j=>
   ⟨m,hg,Sm.ok (em▸(three.mul ((j.sub sp).mul (j.sub sq)))) s2 (by decide) (by decide),y j (by decide),Sm.ok three ((s0.add (s1.mul j)).add (s2.mul (j.mul j))) (by decide) (by decide),by simp only[em,w,u];grind⟩
  refine It (show 2<=1000000 by decide) (show 4<=1000000 by decide) (fv (by decide) (by decide)) rfl (λx hx=>?_) (λx hx=>?_) ⟨hq,rfl⟩
  ·rcases Jz.mp hx with e|e<;>rw[e]
   ·exact⟨y sp (by decide),by rw[w,u];grind⟩
   ·exact⟨y sq (by decide),by rw[w,u];grind⟩
  ·simp only[bz,gT,or_false]at hx
   rcases hx with e|e|e|e<;>simp only[e]
   ·exact key 0 m0 rfl e0 rfl
   ·exact key 1 i rfl e1 rfl
   ·exact key 2 f rfl e2 rfl
   ·exact key 3 d rfl D rfl
 ·rw[ID (ps:=[p,q]) C a1 a2 (λx hx=>by rcases Jz.mp hx with e|e<;>rw[e]<;>assumption) (λk=>by simp)]at e
  cases e
theorem W1{far p n:Int}{aY:aw}{R:Sg->Prop}(sp:Sm 30 p)(hR: ∀c v f m0 d b r0 r1 a,m0= -(3*p)->d=3-3*p->b=6-3*p->r0= -(3*p)->r1=3->a=0->R (yp [p] c v f [m0,d,b] [r0,r1,a] n far aY)):jl 90 mZ ma ["numbers"] (xJ far [p] n aY) (((au 90).body.drop 2).take 2) (iq R (λe e=>False)):=
 have ok: ∀{x:Int},Sm 5 x->aq 3 (x-p)=true:=λh=>Sm.ok (show Sm 5 3 from rfl) (h.sub sp) (by decide) (by decide)
 aX (B:=(bE 3/\aq 3 (0-p)=true/\0<10000000/\aq 3 (1-p)=true/\1<10000000/\aq 3 (2-p)=true/\2<10000000/\R (Sg.mk [("places",.val (.l .I [p])),("n",.val (.i 2)),("value",.val (.i (3*(2-p)))),("place",.val (.i p)),("row",.val (.l .I [3*(0-p),3*(1-p)-3*(0-p),3*(2-p)-3*(1-p)-(3*(1-p)-3*(0-p))])),("due",Sl.any)] [("told",Sl.any),("numbers",.val (.l .I [3*(0-p),3*(1-p),3*(2-p)])),("last",.val (.i n)),("far",.val (.i far)),("box",Sl.bx aY)]))) (by kernel_rfl) ⟨fv (by decide) (by decide),ok rfl,by decide,ok rfl,by decide,ok rfl,by decide,hR _ _ _ _ _ _ _ _ _ (by lia) (by lia) (by lia) (by lia) (by lia) (by lia)⟩
theorem OG{far p q n:Int}{aY:aw}{R:Sg->Prop}(sp:Sm 30 p)(sq:Sm 30 q)(hR: ∀c v k m0 g f e r0 r1 d b,m0=3*((0-p)*(0-q))->g=3*((1-p)*(1-q))->f=3*((2-p)*(2-q))->e=3*((3-p)*(3-q))->r0=3*(p*q)->r1=3*(1-p-q)->d=6->b=0->R (yp [p,q] c v k [m0,g,f,e] [r0,r1,d,b] n far aY)):jl 90 mZ ma ["numbers"] (xJ far [p,q] n aY) (((au 90).body.drop 2).take 2) (iq R (λj j=>False)):=
 have three:Sm 5 3:=rfl
 have ok: ∀{x:Int},Sm 5 x->aq 3 (x-p)=true:=λh=>Sm.ok three (h.sub sp) (by decide) (by decide)
 have a: ∀{x:Int},Sm 5 x->aq (3*(x-p)) (x-q)=true:=λh=>Sm.ok (three.mul (h.sub sp)) (h.sub sq) (by decide) (by decide)
 aX (B:=(bE 4/\aq 3 (0-p)=true/\aq (3*(0-p)) (0-q)=true/\0<10000000/\aq 3 (1-p)=true/\aq (3*(1-p)) (1-q)=true/\1<10000000/\aq 3 (2-p)=true/\aq (3*(2-p)) (2-q)=true/\2<10000000/\aq 3 (3-p)=true/\aq (3*(3-p)) (3-q)=true/\3<10000000/\R (Sg.mk [("places",.val (.l .I [p,q])),("n",.val (.i 3)),("value",.val (.i (3*(3-p)*(3-q)))),("place",.val (.i q)),("row",.val (.l .I [3*(0-p)*(0-q),3*(1-p)*(1-q)-3*(0-p)*(0-q),3*(2-p)*(2-q)-3*(1-p)*(1-q)-(3*(1-p)*(1-q)-3*(0-p)*(0-q)),3*(3-p)*(3-q)-3*(2-p)*(2-q)-(3*(2-p)*(2-q)-3*(1-p)*(1-q))-(3*(2-p)*(2-q)-3*(1-p)*(1-q)-(3*(1-p)*(1-q)-3*(0-p)*(0-q)))])),("due",Sl.any)] [("told",Sl.any),("numbers",.val (.l .I [3*(0-p)*(0-q),3*(1-p)*(1-q),3*(2-p)*(2-q),3*(3-p)*(3-q)])),("last",.val (.i n)),("far",.val (.i far)),("box",Sl.bx aY)]))) (by kernel_rfl) ⟨fv (by decide) (by decide),ok rfl,a rfl,by decide,ok rfl,a rfl,by decide,ok rfl,a rfl,by decide,ok rfl,a rfl,by decide,hR _ _ _ _ _ _ _ _ _ _ _ (eK _ _ _) (eK _ _ _) (eK _ _ _) (eK _ _ _) (by grind) (by grind) (by grind) (by grind)⟩
theorem WJ(B:aP G){D:Nat}(hs:aG G D mZ)(S:rO G D ma):mf G (D+1) "_law_places_right" IR:=GL B (i:=90) (by kernel_rfl) (by kernel_rfl) hs S λvs Q h=>by
 apply cu h;intro v0 h0
 apply dI h0;intro far U
 refine aj λW=>?_
 obtain⟨⟨f0,f1⟩,hq⟩:=U
 refine W ?_
 refine⟨rfl,λd Γ aY hd z L=>WS.cut 2 ((bW z hd (by rw[L]) (aX (A:=jl 90 mZ ma ["numbers"] (xt (au 90) aY [.i far]) ((au 90).body.take 2) (iq (λσ=>∃(ys:List Int) (n:Int),0<=n/\(ys.length=1\/ys.length=2)/\(∀y∈ys,0<=y/\Sm 30 y)/\σ=xJ far ys n aY) (λJ J=>False))) (B:=(0< (2:Int)/\∀(r:Int),0<=r->r< (2:Int)->bE (1+r)/\aR (bD 0 1 (1+r).toNat)<=1000000/\∃Pr:K.D K.I->Prop,(∀(x:K.D K.I),x∈bD 0 1 (1+r).toNat->0< (9:Int)/\∀(r:Int),0<=r->r< (9:Int)->0< (2:Int)/\∀(j:Int),0<=j->j< (2:Int)->aq far j=true/\Pr (r+far*j)/\VS far aY)/\∀(ys:List (K.D K.I)),aR ys=aR (bD 0 1 (1+r).toNat)->(∀(y:K.D K.I),y∈ys->Pr y)->0< (9:Int)/\∀(r:Int),0<=r->r< (9:Int)->0< (2:Int)/\∀(j:Int),0<=j->j< (2:Int)->aq far j=true/\(λσ=>∃(ys:List Int) (n:Int),0<=n/\(ys.length=1\/ys.length=2)/\(∀y∈ys,0<=y/\Sm 30 y)/\σ=xJ far ys n aY) (Sg.mk [("places",.own .I ys),("n",Sl.any),("value",Sl.any),("place",Sl.any),("row",Sl.any),("due",Sl.any)] [("told",Sl.any),("numbers",.own .I []),("last",.val (.i (r+far*j))),("far",.val (.i far)),("box",Sl.bx aY)]))) (by kernel_rfl) ⟨by decide,λr r0 r1=>?_⟩)).mono λo σ w=>?_)⟩
 ·have C: ∀{w u:Int},0<=w->w<9->0<=u->u<2->aq far u=true/\0<=w+far*u/\Sm 30 (w+far*u):=λ{w u} l k s m=>by
   have hv:0<=far*u/\far*u<=1000000000:=by
    rcases(by lia:u=0\/u=1)with rfl|rfl<;>lia
   exact⟨Sm.ok (Sm.iff.mpr (show _<2^40 by lia)) (Sm.iff.mpr (show _<2^40 by lia)) (by decide) (by decide),by lia,Sm.iff.mpr (show _<1073741824 by lia)⟩
  have hl:(bD 0 1 (1+r).toNat).length=(1+r).toNat:=by simp[bD]
  refine⟨fv (by lia) (by lia),by rw[hl];lia,λy=>0<=y/\Sm 30 y,λx J=>⟨by decide,λw l k=>⟨by decide,λu s m=>⟨(C l k s m).1,(C l k s m).2,rfl⟩⟩⟩,λys h1 h2=>⟨by decide,λw l k=>⟨by decide,λu s m=>⟨(C l k s m).1,ys,_,(C l k s m).2.1,by rw[h1,hl];lia,h2,rfl⟩⟩⟩⟩
 ·induction o with
  |ret v=>exact w.elim
  |next=>
   obtain⟨ys,n,n0,hl,t,rfl⟩:=w
   have hn:Γ.env.scope.names=(au 90).scope.names:=by rw[L]
   match ys,hl,t with
   | [p],_,t=>
    have hp:=t p (.head _)
    refine WS.cut 2 ((bW z hd hn (W1 (R:=λσ=>jl 90 mZ ma ["numbers"] σ (((au 90).body.drop 2).drop 2) (qd (au 90).scope.names aY Q)) hp.2 λc v N m0 P O r0 r1 M a b H F e f=>UA n0 hp.1 (hp.2.mono (by decide)) hq a b H F e f)).mono λo σ w=>?_)
    induction o with
    |ret v=>exact w.elim
    |next=>exact bW z hd hn w
   | [p,q],_,t=>
    have hp:=t p (.head _)
    have E:=t q (.tail _ (.head _))
    refine WS.cut 2 ((bW z hd hn (OG (R:=λσ=>jl 90 mZ ma ["numbers"] σ (((au 90).body.drop 2).drop 2) (qd (au 90).scope.names aY Q)) hp.2 E.2 λc v N m0 P O m3 r0 r1 M r3 a b H F e f g h=>Wr n0 hp.1 E.1 hp.2 E.2 hq a b H F e f g h)).mono λo σ w=>?_)
    induction o with
    |ret v=>exact w.elim
    |next=>exact bW z hd hn w
   | [],h,_=>simp at h
   |_::_::_::_,h,_=>simp at h
end
section
variable {G:aK} {d:Nat} {Γ:Fm} {S:St}
noncomputable def yi(ns:List Int)(a:List (Int×Int))(a0 far:Int)(aY:aw):Sg:=⟨[("script",.val (.l .I ns)),("ours",.val (.l .R a)),("a",.val (.l .I [a0])),("top",.any),("bottom",.any),("b",.any),("apart",.any),("due",.any)],[("theirs",.any),("far",.val (.i far)),("box",.bx aY)]⟩
noncomputable def xQ(ns:List Int)(a:List (Int×Int))(p:List Int)(t u:Int)(q:List Int)(ws:List (Int×Int))(z:Int×Int)(far:Int)(aY:aw):Sg:=⟨[("script",.val (.l .I ns)),("ours",.val (.l .R a)),("a",.val (.l .I p)),("top",.val (.i t)),("bottom",.val (.i u)),("b",.val (.l .I q)),("apart",.own .R ws),("due",.any)],[("theirs",.val (rV z)),("far",.val (.i far)),("box",.bx aY)]⟩
def gW(t:Sl)(far:Int)(aY:aw):Prop:=(⟨("theirs":ag),t⟩::⟨("far":ag),.val (.i far)⟩::⟨("box":ag),.bx aY⟩::[]:SL)=⟨("theirs":ag),t⟩::⟨("far":ag),.val (.i far)⟩::⟨("box":ag),.bx aY⟩::[]
noncomputable def dB(w:Int×Int):Bool:=w.1.fmod w.2==0&&decide (w.1≥0)
noncomputable def dF(w:Int×Int):Int×Bool:=(w.1.fdiv w.2,true)
noncomputable abbrev dW(z x:Int×Int):Int×Int:=(z.1*x.2-x.1*z.2,z.2*x.2)
theorem Ic{w:Int×Int}{k:Int}(h:0<w.2):(dB w=true/\k=w.1.fdiv w.2)↔(0<=k/\w.1=k*w.2):=by
 obtain⟨t,d⟩:=w
 have h:0<d:=h
 unfold dB
 rw[cO,beq_iff_eq,decide_eq_true_eq]
 show(t.fmod d=0/\0<=t)/\k=t.fdiv d↔0<=k/\t=k*d
 rw[MC _ (by trivial),MS _ (by trivial)]
 constructor
 ·rintro⟨⟨a,b⟩,rfl⟩;exact⟨EX b (by trivial),(Int.ediv_mul_cancel (ww a)).symm⟩
 ·rintro⟨a,rfl⟩;exact⟨⟨Int.mul_emod_left _ _,fW a (by trivial)⟩,(Int.mul_ediv_cancel _ (by trivial)).symm⟩
theorem JY{xs:List (Int×Int)}{z:Int×Int}{ms ys:List Int}(g:pF xs z ys)(h1:ms.Pairwise (· < ·))(h2: ∀k,k∈ms↔∃b,(k,b)∈((xs.map (dW z)).filter dB).map dF)(hz:0<z.2)(hx: ∀x∈xs,0<x.2):(ys==ms)=true:=by
 have e:ys=ms:=CM g.asc h1 λk=>by
  rw[g.mem,h2]
  constructor
  ·rintro⟨a,x,m,e⟩
   obtain⟨b,c⟩:=(Ic (w:=dW z x) (k:=k) (da hz (hx x m))).mpr ⟨a,by show z.1*x.2-x.1*z.2=k*(z.2*x.2);rw[e,bT x.2]⟩
   exact⟨true,bF.mpr ⟨_,ke.mpr ⟨bF.mpr ⟨x,m,rfl⟩,b⟩,by rw[c];rfl⟩⟩
  ·rintro⟨b,m⟩
   refine aj λh=>?_
   obtain⟨w,m,e⟩:=bF.mp m
   obtain⟨m,f⟩:=ke.mp m
   obtain⟨x,d,rfl⟩:=bF.mp m
   refine h ?_
   cases e
   obtain⟨a,e⟩:=(Ic (w:=dW z x) (da hz (hx x d))).mp ⟨f,rfl⟩
   exact⟨a,x,d,by rw[bT x.2];exact e⟩
 rw[e];exact beq_self_eq_true _
theorem HQ{z:Int×Int}(h:db z)(e:z.2=2):z.1%2=1:=by
 have c:=h.n.cop
 rw[e]at c
 rcases Int.emod_two_eq z.1 with q|q
 ·have :(bp z.1 2:Int)=2:=Int.gcd_eq_right (by decide) (ww q)
  lia
 ·exact q
theorem Gx{x z:Int×Int}(hx:db x)(hz:db z):(aL (z.1*x.2-x.1*z.2) (x.2*z.2)).2<=2:=by
 have low:x.2*z.2<=2->0<x.2*z.2->(aL (z.1*x.2-x.1*z.2) (x.2*z.2)).2<=2:=λh p=>by
  obtain⟨g,_,g2,g3,gn⟩:=jj (t:=z.1*x.2-x.1*z.2) (show x.2*z.2≠0 by trivial)
  exact bb (t7 p ⟨g,by rw[bT _ g];exact g2⟩) h
 rcases hx.b with a|a<;>rcases hz.b with b|b
 ·exact low (by rw[a,b];decide) (by rw[a,b];decide)
 ·exact low (by rw[a,b];decide) (by rw[a,b];decide)
 ·exact low (by rw[a,b];decide) (by rw[a,b];decide)
 ·have o1:=HQ hx a
  have o2:=HQ hz b
  rw[a,b,jP (x:=((z.1-x.1)/2,1)) (by decide) (yo _) (by show _=(z.1-x.1)/2*(2*2);trivial)]
  show 1<=2;decide
def GT(w:Int×Int)(s:Sl)(far:Int)(aY:aw):Prop:=w.2≠0/\aE (w.1.fmod w.2==0) (decide (w.1≥0)=dB w/\(dB w=false->gW s far aY)/\(dB w=true->(w.2≠0/\bk w.2 8000=true)/\K.of .D' (V.t2 (V.i (w.1.fdiv w.2)) (V.b true))=some (dF w)/\gW s far aY)) (false=dB w/\(dB w=false->gW s far aY)/\(dB w=true->(w.2≠0/\bk w.2 8000=true)/\K.of .D' (V.t2 (V.i (w.1.fdiv w.2)) (V.b true))=some (dF w)/\gW s far aY))
theorem Xc{w:Int×Int}{s:Sl}{far:Int}{aY:aw}(h:0<w.2)(s2:Sm 8000 w.2):GT w s far aY:=by
 have n:w.2≠0:=by trivial
 have r:(dB w=false->gW s far aY)/\(dB w=true->(w.2≠0/\bk w.2 8000=true)/\K.of .D' (V.t2 (V.i (w.1.fdiv w.2)) (V.b true))=some (dF w)/\gW s far aY):=⟨λa=>rfl,λa=>⟨⟨n,s2⟩,rfl,rfl⟩⟩
 exact⟨n,cw (λe=>⟨by unfold dB;rw[e];rfl,r⟩) (λe=>⟨by unfold dB;rw[e];rfl,r⟩)⟩
theorem db.s2{x:Int×Int}(h:db x):Sm 2 x.2:=by rcases h.b with e|e<;>rw[e]<;>rfl
theorem db.s0{x:Int×Int}(h:db x):Sm 1000 (0-x.1):=by rw[tU];exact h.s.neg.mono (by decide)
theorem db.ok{x z:Int×Int}(h:db x)(hz:db z):aq x.1 z.2=true:=Sm.ok h.s hz.s2 (by decide) (by decide)
theorem BK{x z:Int×Int}{s:Sl}{far:Int}{aY:aw}(hz:db z)(hx:db x):GT (dW z x) s far aY:=Xc (w:=dW z x) (s:=s) (far:=far) (aY:=aY) (da hz.n.pos hx.n.pos) ((hz.s2.mul hx.s2).mono (show 2+2<=8000 by decide))
theorem Br{z:Int×Int}(hz:db z):Sm 34 (3*(0-z.1))/\Sm 4 (3*z.2):=by
 have s3:Sm 2 3:=rfl
 rw[tU]
 exact⟨s3.mul hz.s.neg,s3.mul hz.s2⟩
theorem Iz{z:Int×Int}{b a:Int}(hz:db z)(e0:b=3*(0-z.1))(e1:a=3*z.2):cM b a 3 z:=by
 obtain⟨d,c⟩:=Br hz
 exact⟨by decide,hz.n,by simp only[e0,tU,k8],e1,e0▸d.mono (by decide),e1▸c.mono (by decide)⟩
theorem Si{x z:Int×Int}(hx:db x)(hz:db z):0<=(aL (z.1*x.2-x.1*z.2) (x.2*z.2)).2:=by
 have p:=da hx.n.pos hz.n.pos
 obtain⟨g,_,g2,g3,a⟩:=jj (t:=z.1*x.2-x.1*z.2) (show x.2*z.2≠0 by trivial)
 exact bZ a.pos
theorem BJ{p q k:Int×Int}:k∈[p,q]↔k=p\/k=q:=by simp
noncomputable abbrev l9:cp:=[("dispersions",Bg),("_law_times",Bn)]
noncomputable abbrev nI:cp:=[("_law_take",uf),("_law_root",HV),("_law_places_right",IR)]
theorem T7{ns:List Int}{x w z:Int×Int}{s0 a0 a1 t u f d far:Int}{aY:aw}{Q:V->Prop}(hx:db x)(hz:db z)(ha:s0=1\/s0= -2)(hf:0<=far/\far<=1000000000)(hq:Q (.b true))(o:w=dW z x)(m:a0=s0*(0-x.1))(j:a1=s0*x.2)(h:f=3*(0-z.1))(g:d=3*z.2):
  jl 91 l9 nI [] (xQ ns [x] [a0,a1] t u [f,d] [w] z far aY) (((au 91).body.drop 3).drop 4) (aB Q):=by
 have sa:Sm 2 s0:=by rcases ha with e|e<;>rw[e]<;>rfl
 have na:s0≠0:=by lia
 have e0: ∀y:Int,0-y= -y:=λy=>tU y
 have v:Sm 34 a0:=by simp only[m,e0];exact sa.mul hx.s.neg
 have r:Sm 4 a1:=j▸sa.mul hx.s2
 obtain⟨q,p⟩:=Br hz
 rw[← h]at q
 rw[← g]at p
 refine aX (B:=(1<=1000000/\∃(k:K) (B:K.D K.R->Bool) (F:K.D K.R->K.D k),(∀(x:K.D K.R),x∈[w]->ak x≠0/\aE (p5 x.1 x.2==0) (decide (ai x≥0)=B x/\(B x=false->gW (.val (.t2 (V.i z.1) (V.i z.2))) far aY)/\(B x=true->(ak x≠0/\bk x.2 8000=true)/\K.of k (V.t2 (V.i (bg x.1 x.2)) (V.b true))=some (F x)/\gW (.val (.t2 (V.i z.1) (V.i z.2))) far aY)) (false=B x/\(B x=false->gW (.val (.t2 (V.i z.1) (V.i z.2))) far aY)/\(B x=true->(ak x≠0/\bk x.2 8000=true)/\K.of k (V.t2 (V.i (bg x.1 x.2)) (V.b true))=some (F x)/\gW (.val (.t2 (V.i z.1) (V.i z.2))) far aY)))/\a9 (V.asIBs (V.l k (bS F (gx B [w])))) λps=>aR ps<64/\∀(ms:List Int),wx (λx1 A=>x1<A) ms->(∀(k:Int),k∈ms↔∃b,(k,b)∈ps)->∃(c e:Int) (x z:Int×Int),(cM a0 a1 c x/\cM f d e z/\(Sm 42 a0/\Sm 42 a1)/\Sm 36 f/\Sm 4 d)/\∀(ys:List Int),pF [x] z ys->aE (ys==ms) ((0<=far/\far<=1000000000)/\Q (V.b true)) (Q (V.b false)))) (by kernel_rfl) ⟨by decide,.D',dB,dF,λy a=>?_,d7 (by rw[bi];exact rA _ _) (show 1<64 by decide),λms E C=>⟨s0,3,x,z,⟨⟨na,hx.n,by simp only[m,e0,k8],j,v.mono (by decide),r.mono (by decide)⟩,Iz hz h g,⟨v.mono (by decide),r.mono (by decide)⟩,q.mono (by decide),p⟩,λys a=>cw (λz_=>⟨hf,hq⟩) (λe=>?_)⟩⟩
 ·rw[bC.mp a,o]
  exact BK hz hx
 ·subst o
  rw[JY (xs:=[x]) a E C hz.n.pos (λy a=>by rw[bC.mp a];exact hx.n.pos)]at e
  cases e
theorem Tg{ns:List Int}{x y w v z:Int×Int}{s0 a0 a1 a2 t u f d far:Int}{aY:aw}{Q:V->Prop}(hx:db x)(a:db y)(hz:db z)(ha:s0=1\/s0= -2)(hf:0<=far/\far<=1000000000)(hq:Q (.b true))(q:w=dW z x)(ev:v=dW z y)(o:a0=s0*(0-x.1)*(0-y.1))(m:a1=s0*(0-x.1)*y.2+s0*x.2*(0-y.1))(p:a2=s0*x.2*y.2)(j:f=3*(0-z.1))(h:d=3*z.2):
  jl 91 l9 nI [] (xQ ns [x,y] [a0,a1,a2] t u [f,d] [w,v] z far aY) (((au 91).body.drop 3).drop 4) (aB Q):=by
 have sa:Sm 2 s0:=by rcases ha with e|e<;>rw[e]<;>rfl
 have na:s0≠0:=by lia
 have e0: ∀y:Int,0-y= -y:=λy=>tU y
 have G:Sm 66 a0:=by simp only[o,e0,e0];exact(sa.mul hx.s.neg).mul a.s.neg
 have E:Sm 37 a1:=by
  simp only[m,e0,e0]
  have :=ln ((sa.mul hx.s.neg).mul a.s2) (((sa.mul hx.s2).mul a.s.neg).neg.mono (show _<=2+32+2 by decide))
  rwa[Int.sub_neg]at this
 have C:Sm 6 a2:=p▸(sa.mul hx.s2).mul a.s2
 obtain⟨A,r⟩:=Br hz
 rw[← j]at A
 rw[← h]at r
 refine aX (B:=(2<=1000000/\∃(k:K) (B:K.D K.R->Bool) (F:K.D K.R->K.D k),(∀(x:K.D K.R),x∈[w,v]->ak x≠0/\aE (p5 x.1 x.2==0) (decide (ai x≥0)=B x/\(B x=false->gW (.val (.t2 (V.i z.1) (V.i z.2))) far aY)/\(B x=true->(ak x≠0/\bk x.2 8000=true)/\K.of k (V.t2 (V.i (bg x.1 x.2)) (V.b true))=some (F x)/\gW (.val (.t2 (V.i z.1) (V.i z.2))) far aY)) (false=B x/\(B x=false->gW (.val (.t2 (V.i z.1) (V.i z.2))) far aY)/\(B x=true->(ak x≠0/\bk x.2 8000=true)/\K.of k (V.t2 (V.i (bg x.1 x.2)) (V.b true))=some (F x)/\gW (.val (.t2 (V.i z.1) (V.i z.2))) far aY)))/\a9 (V.asIBs (V.l k (bS F (gx B [w,v])))) λps=>aR ps<64/\∀(ms:List Int),wx (λx1 H=>x1<H) ms->(∀(k:Int),k∈ms↔∃b,(k,b)∈ps)->∃(c e:Int) (x y z:Int×Int),(cv a0 a1 a2 c x y/\cM f d e z/\ak (aL (ai z*ak x-ai x*ak z) (ak x*ak z))*ak (aL (ai z*ak y-ai y*ak z) (ak y*ak z))<=4/\(Sm 72 a0/\Sm 42 a1/\Sm 8 a2)/\Sm 36 f/\Sm 4 d)/\∀(ys:List Int),pF [x,y] z ys->aE (ys==ms) ((0<=far/\far<=1000000000)/\Q (V.b true)) (Q (V.b false)))) (by kernel_rfl) ⟨by decide,.D',dB,dF,λk hk=>?_,d7 (by rw[bi];exact rA _ _) (show 2<64 by decide),λms J I=>⟨s0,3,x,y,z,⟨⟨na,hx.n,a.n,by rw[o];grind,by rw[m];grind,by rw[p,eK],G.mono (by decide),E.mono (by decide),C.mono (by decide)⟩,Iz hz j h,rJ (Gx hx hz) (Gx a hz) (Si a hz) (by decide),⟨G.mono (by decide),E.mono (by decide),C.mono (by decide)⟩,A.mono (by decide),r⟩,λys g=>cw (λz_=>⟨hf,hq⟩) (λe=>?_)⟩⟩
 ·rcases BJ.mp hk with rfl|rfl
  ·rw[q];exact BK hz hx
  ·rw[ev];exact BK hz a
 ·subst q ev
  rw[JY (xs:=[x,y]) g J I hz.n.pos (λk hk=>by rcases BJ.mp hk with rfl|rfl;exact hx.n.pos;exact a.n.pos)]at e
  cases e
theorem Qd{ns:List Int}{x:Int×Int}{a0 far:Int}{aY:aw}{R:Sg->Prop}(hx:db x)(sa:Sm 2 a0)(hf:0<=far/\far<=1000000000)(hR: ∀z,db z->R (xQ ns [x] [a0*(0-x.1),a0*x.2] x.1 x.2 [3*(0-z.1),3*z.2] [dW z x] z far aY)):jl 91 l9 nI [] (yi ns [x] a0 far aY) (((au 91).body.drop 3).take 4) (iq R (λb b=>False)):=
 aX (B:=((Sm 1000 a0/\Sm 1000 (0-ai x)/\Sm 1000 x.2)/\(0<=far/\far<=1000000000)/\∀(z:Int×Int),db z->(Sm 1000 3/\Sm 1000 (0-ai z)/\Sm 1000 z.2)/\1<=1000000/\∃(k:K) (F:K.D K.R->K.D k),(∀(a:K.D K.R),a∈[x]->aq z.1 a.2=true/\aq a.1 z.2=true/\aq z.2 a.2=true/\K.of k (V.t2 (V.i (ai z*ak a-ai a*ak z)) (V.i (ak z*ak a)))=some (F a)/\gW (.val (.t2 (V.i z.1) (V.i z.2))) far aY)/\R (Sg.mk [("script",.val (.l .I ns)),("ours",.val (.l .R [x])),("a",.val (.l .I [a0*(0-ai x),a0*ak x])),("top",.val (.i x.1)),("bottom",.val (.i x.2)),("b",.val (.l .I [3*(0-ai z),3*ak z])),("apart",.own k [F x]),("due",Sl.any)] [("theirs",.val (.t2 (V.i z.1) (V.i z.2))),("far",.val (.i far)),("box",Sl.bx aY)]))) (by kernel_rfl) ⟨⟨sa.mono (by decide),hx.s0,hx.s2.mono (by decide)⟩,hf,λz hz=>⟨⟨rfl,hz.s0,hz.s2.mono (by decide)⟩,by decide,.R,dW z,λy c=>(bC.mp c).symm▸⟨hz.ok hx,hx.ok hz,Sm.ok hz.s2 hx.s2 (by decide) (by decide),rfl,rfl⟩,hR z hz⟩⟩
theorem TB{ns:List Int}{x y:Int×Int}{a0 far:Int}{aY:aw}{R:Sg->Prop}(hx:db x)(b:db y)(sa:Sm 2 a0)(hf:0<=far/\far<=1000000000)(hR: ∀z,db z->R (xQ ns [x,y] [a0*(0-x.1)*(0-y.1),a0*(0-x.1)*y.2+a0*x.2*(0-y.1),a0*x.2*y.2] y.1 y.2 [3*(0-z.1),3*z.2] [dW z x,dW z y] z far aY)):jl 91 l9 nI [] (yi ns [x,y] a0 far aY) (((au 91).body.drop 3).take 4) (iq R (λc c=>False)):=
 aX (B:=((Sm 1000 a0/\Sm 1000 (0-ai x)/\Sm 1000 x.2)/\(Sm 1000 (a0*(0-ai x))/\Sm 1000 (a0*ak x)/\Sm 1000 (0-ai y)/\Sm 1000 y.2)/\(0<=far/\far<=1000000000)/\∀(z:Int×Int),db z->(Sm 1000 3/\Sm 1000 (0-ai z)/\Sm 1000 z.2)/\2<=1000000/\∃(k:K) (F:K.D K.R->K.D k),(∀(a:K.D K.R),a∈[x,y]->aq z.1 a.2=true/\aq a.1 z.2=true/\aq z.2 a.2=true/\K.of k (V.t2 (V.i (ai z*ak a-ai a*ak z)) (V.i (ak z*ak a)))=some (F a)/\gW (.val (.t2 (V.i z.1) (V.i z.2))) far aY)/\R (Sg.mk [("script",.val (.l .I ns)),("ours",.val (.l .R [x,y])),("a",.val (.l .I [a0*(0-ai x)*(0-ai y),a0*(0-ai x)*ak y+a0*ak x*(0-ai y),a0*ak x*ak y])),("top",.val (.i y.1)),("bottom",.val (.i y.2)),("b",.val (.l .I [3*(0-ai z),3*ak z])),("apart",.own k [F x,F y]),("due",Sl.any)] [("theirs",.val (.t2 (V.i z.1) (V.i z.2))),("far",.val (.i far)),("box",Sl.bx aY)]))) (by kernel_rfl) ⟨⟨sa.mono (by decide),hx.s0,hx.s2.mono (by decide)⟩,⟨(sa.mul (by rw[tU];exact hx.s.neg)).mono (by decide),(sa.mul hx.s2).mono (by decide),b.s0,b.s2.mono (by decide)⟩,hf,λz hz=>⟨⟨rfl,hz.s0,hz.s2.mono (by decide)⟩,by decide,.R,dW z,λk hk=>by rcases BJ.mp hk with rfl|rfl;exact⟨hz.ok hx,hx.ok hz,Sm.ok hz.s2 hx.s2 (by decide) (by decide),rfl,rfl⟩;exact⟨hz.ok b,b.ok hz,Sm.ok hz.s2 b.s2 (by decide) (by decide),rfl,rfl⟩,hR z hz⟩⟩
theorem J3{α:Type}{o:Option α}{x:α}{Q:α->Prop}(h:o=some x)(q:Q x):a9 o Q:=by subst h;exact q
def Aa(σ:Sg):Prop:=jl 91 l9 nI [] σ (((au 91).body.drop 3).drop 4) (aB (· = .b true))
theorem Pc{R:Sg->Prop}{F:aC->Sg->Prop}{σ:Sg}(h:iq R F .next σ):R σ:=h
theorem Rz(B:aP G){D:Nat}(hs:aG G D l9)(p:rO G D nI)(hd:D<=d)(s:Γ.env.scope=(au 91).scope)(ns:List Int):WS G d Γ (gG (au 91) [.l .I ns]) (au 91).body (aB (· = .b true)):=by
 have g:=B.prgB hs p
 have hn:Γ.env.scope.names=(au 91).scope.names:=by rw[s]
 refine WS.cut 3 ((bW g hd hn (aX (A:=jl 91 l9 nI [] (gG (au 91) [.l .I ns]) ((au 91).body.take 3) (iq (λσ=>∃(ys:List (Int×Int)) (a0 far:Int) (b:aw),(ys.length=1\/ys.length=2)/\(∀y∈ys,db y)/\(a0=1\/a0= -2)/\(0<=far/\far<=1000000000)/\σ=yi ns ys a0 far b) (λf f=>False))) (B:=((0:Int)<=(20:Int)/\(0:Int)<=(0:Int)/\∀(a:aw),((0:Int)<=(9:Int)/\ce (10:Int) (9:Nat)=true)/\(0:Int)< (3:Int)/\∀(r:Int),(0:Int)<=r->r< (3:Int)->a9 (cg [(3000:Int),(1000000000:Int),(5:Int)] r) λx=>(0:Int)< (2:Int)/\∀(r:Int),(0:Int)<=r->r< (2:Int)->bE ((1:Int)+r)/\aR (bD (0:Int) (1:Int) (bY ((1:Int)+r)))<=(1000000:Nat)/\∃(k:K) (Pr:K.D k->Prop),(∀(j:K.D K.I),j∈bD (0:Int) (1:Int) (bY ((1:Int)+r))->((0:Int)<=x/\x<=(1000000000:Int))/\∀(z:Int×Int),db z->(a9 (K.of k (V.t2 (V.i (ai z)) (V.i (ak z)))) λy=>Pr y)/\gW (.any) x a)/\∀(ys:List (K.D k)),aR ys=aR (bD (0:Int) (1:Int) (bY ((1:Int)+r)))->(∀(y:K.D k),y∈ys->Pr y)->(0:Int)< (2:Int)/\∀(r:Int),(0:Int)<=r->r< (2:Int)->a9 (cg [(1:Int),(-2:Int)] r) λj=>(λσ=>∃(ys:List (Int×Int)) (a0 far:Int) (b:aw),(ys.length=1\/ys.length=2)/\(∀y∈ys,db y)/\(a0=1\/a0= -2)/\(0<=far/\far<=1000000000)/\σ=yi ns ys a0 far b) (Sg.mk [(al "script",Sl.val (V.l K.I ns)),(al "ours",Sl.val (V.l k ys)),(al "a",Sl.val (V.l K.I [j])),(al "top",Sl.any),(al "bottom",Sl.any),(al "b",Sl.any),(al "apart",Sl.any),(al "due",Sl.any)] [(al "theirs",Sl.any),(al "far",Sl.val (V.i x)),(al "box",Sl.bx a)]))) (by kernel_rfl) ⟨by decide,by decide,λb=>⟨⟨by decide,by decide⟩,by decide,λr r0 r1=>?_⟩⟩)).mono λo σ w=>?_)
 ·obtain⟨far,hf,n⟩: ∃x,cg [(3000:Int),1000000000,5] r=some x/\0<=x/\x<=1000000000:=by
   rcases(by lia:r=0\/r=1\/r=2)with rfl|rfl|rfl
   ·exact⟨3000,rfl,by decide,by decide⟩
   ·exact⟨1000000000,rfl,by decide,by decide⟩
   ·exact⟨5,rfl,by decide,by decide⟩
  refine J3 hf ⟨by decide,λr r0 r1=>?_⟩
  have hl:(bD 0 1 (1+r).toNat).length=(1+r).toNat:=by simp[bD]
  refine⟨fv (by lia) (by lia),by rw[hl];lia,.R,db,λx f=>⟨n,λz hz=>⟨hz,rfl⟩⟩,λys h1 h2=>⟨by decide,λu u0 u1=>?_⟩⟩
  obtain⟨a0,ha,q⟩: ∃x,cg [(1:Int), -2] u=some x/\(x=1\/x= -2):=by
   rcases(by lia:u=0\/u=1)with rfl|rfl
   ·exact⟨1,rfl,.inl rfl⟩
   ·exact⟨-2,rfl,.inr rfl⟩
  exact J3 ha ⟨ys,a0,far,b,by rw[h1,hl];lia,h2,q,n,rfl⟩
 ·induction o with
  |ret v=>exact w.elim
  |next=>
   obtain⟨ys,a0,far,b,hl,c,ha,hf,rfl⟩:=w
   have sa:Sm 2 a0:=by rcases ha with e|e<;>rw[e]<;>rfl
   have nx: ∀{ah o},iq Aa (λf f=>False) o ah->qB G d Γ (((au 91).body.drop 3).drop 4) (aB (· = .b true)) o ah:=λ{ah o} w=>by
    induction o with
    |ret v=>exact w.elim
    |next=>exact bW g hd hn (show jl 91 l9 nI [] ah (((au 91).body.drop 3).drop 4) (aB (· = .b true))from Pc w)
   match ys,hl,c with
   | [x],_,c=>
    have hx:=c x (.head _)
    exact WS.cut 4 ((bW g hd hn (Qd (R:=Aa) hx sa hf λz hz=>T7 (Q:=(· = .b true)) hx hz ha hf rfl rfl rfl rfl rfl rfl)).mono λo σ w=>nx w)
   | [x,y],_,c=>
    have hx:=c x (.head _)
    have m:=c y (.tail _ (.head _))
    exact WS.cut 4 ((bW g hd hn (TB (R:=Aa) hx m sa hf λz hz=>Tg (Q:=(· = .b true)) hx m hz ha hf rfl rfl rfl rfl rfl rfl rfl rfl)).mono λo σ w=>nx w)
   | [],h,_=>simp at h
   |_::_::_::_,h,_=>simp at h
theorem Pf(B:aP G):au 91∈jW G.p:=by rw[B.p];exact XO He
theorem Pi(B:aP G){D:Nat}(hs:aG G D l9)(a:rO G D nI)(hd:D<=d)(ns:List Int):gh G (d+1) (au 91).name [.list (ns.map .int)] (· = .bool true):=by
 have h:=J5 (Q:=(· = .b true)) (vs:=[.l .I ns]) (Pf B) (GM.at (.head _)) (by kernel_rfl) (by kernel_rfl) λΓ c=>Rz (d:=d) B hs a hd c ns
 exact h.mono λt w=>by obtain⟨v,rfl,rfl⟩:=w;rfl
end
section
variable {G:aK} {d:Nat} {Γ:Fm} {S:St}
theorem aG.nil{D:Nat}:aG G D []:=λp h=>nomatch h
theorem Vl(B:aP G):aG G 13 l9/\aG G 13 mZ:=by
 have h0:ao G 1 "zdegree" cZ:=Sp B
 have h1:ao G 1 "gcd" jB:=U8 B
 have h2:ao G 2 "gcd_all" uW:=Wj B (.cons h1 aG.nil)
 have h3:ao G 3 "zcontent" fQ:=QH B (.cons h2 aG.nil)
 have h4:ao G 1 "zdivided" ll:=UX B
 have h5:ao G 4 "zprimitive" sN:=V3 B (.cons h3 (.cons (h4.mono (by decide)) aG.nil))
 have h6:ao G 1 "zscale" xC:=OM B
 have m:ao G 1 "zscale" jo:=RJ h6
 have H:ao G 1 "check_bottom" m8:=PX B
 have a:ao G 1 "zlead" dA:=Uc B
 have EH:ao G 1 "zneg" lq:=Rw B
 have LK:ao G 1 "ztrim" rX:=SR B
 have yK:ao G 2 "zadd" rR:=TC B (.cons LK aG.nil)
 have LL:ao G 3 "zsub" xd:=Ur B (.cons (EH.mono (by decide)) (.cons yK aG.nil))
 have EI:ao G 1 "zraise" nL:=UV B
 have EJ:ao G 4 "pseudo" va:=UN B (.cons (H.mono (by decide)) (.cons (a.mono (by decide)) (.cons LL (.cons (h6.mono (by decide)) (.cons (EI.mono (by decide)) aG.nil)))))
 have EK:ao G 4 "pseudo" lA:=Sz EJ
 have LM:ao G 5 "zpseudo_rest" o0:=WN B (.cons EK aG.nil)
 have LN:ao G 1 "next_height" pj:=Pw B
 have h19:ao G 6 "subresultants" ue:=Ro B (.cons LM (.cons (h4.mono (by decide)) (.cons (a.mono (by decide)) (.cons (LN.mono (by decide)) aG.nil))))
 have h20:ao G 7 "zgcd" vg:=WT B (.cons (h5.mono (by decide)) (.cons (h3.mono (by decide)) (.cons (m.mono (by decide)) (.cons (h1.mono (by decide)) (.cons h19 aG.nil)))))
 have h:ao G 1 "zderive" jp:=Ny B
 have h22:ao G 8 "simple_part" wK:=WF B (.cons h20 (.cons (h.mono (by decide)) (.cons (h0.mono (by decide)) aG.nil)))
 have LO:ao G 4 "zprimitive" sJ:=Tz h5
 have h24:ao G 6 "subresultants" u3:=Sc B (.cons LM (.cons (h4.mono (by decide)) (.cons (a.mono (by decide)) (.cons (LN.mono (by decide)) aG.nil))))
 have h25:ao G 7 "zgcd" uN:=Uz B (.cons (LO.mono (by decide)) (.cons (h3.mono (by decide)) (.cons (m.mono (by decide)) (.cons (h1.mono (by decide)) (.cons h24 aG.nil)))))
 have LQ:ao G 3 "zsub" pH:=Sy LL
 have LS:ao G 1 "ztrim" pe:=N2 LK
 have EL:ao G 4 "zexact" nG:=VN B (.cons (H.mono (by decide)) (.cons LQ (.cons (EI.mono (by decide)) (.cons (m.mono (by decide)) (.cons (LS.mono (by decide)) aG.nil)))))
 have EM:ao G 8 "simple_part" o8:=UF B (.cons h25 (.cons (h.mono (by decide)) (.cons (h0.mono (by decide)) (.cons (EL.mono (by decide)) aG.nil))))
 have h30:ao G 8 "simple_part" Am:=Wi h22 EM
 have h31:ao G 1 "zat" Ct:=SG B
 have h32:ao G 1 "zat" BU:=WX h31
 have h33:ao G 2 "roots_within" Bt:=Um B (.cons h0 (.cons h32 aG.nil))
 have h34:ao G 4 "pseudo" ui:=Ou EJ
 have h35:ao G 5 "full_rest" uT:=Op B (.cons h34 (.cons (h0.mono (by decide)) (.cons (a.mono (by decide)) aG.nil)))
 have l:ao G 1 "divided" jr:=S8 B
 have h37:ao G 6 "row_resultant" vk:=W8 B (.cons h35 (.cons (h0.mono (by decide)) (.cons (a.mono (by decide)) (.cons (l.mono (by decide)) aG.nil))))
 have h38:ao G 7 "resultant" Bl:=U4 B (.cons h37 (.cons (h0.mono (by decide)) (.cons (h3.mono (by decide)) (.cons (l.mono (by decide)) aG.nil))))
 have h39:ao G 5 "full_rest" vh:=Pv B (.cons EK (.cons (h0.mono (by decide)) (.cons (a.mono (by decide)) aG.nil)))
 have h40:ao G 6 "row_resultant" uR:=Oa B (.cons h39 (.cons (h0.mono (by decide)) (.cons (a.mono (by decide)) (.cons (l.mono (by decide)) aG.nil))))
 have h41:ao G 7 "resultant" AX:=Nt B (.cons h40 (.cons (h0.mono (by decide)) (.cons (h3.mono (by decide)) (.cons (l.mono (by decide)) aG.nil))))
 have h42:ao G 7 "resultant" Dj:=Rd h38 h41
 have h43:ao G 1 "zshift" B4:=Vi B
 have LU:ao G 1 "first_differences" wO:=Qg B
 have h45:ao G 1 "zeros_on" Cn:=S9 B
 have h46:ao G 1 "zeros_on" Bk:=Q3 h45
 have h47:ao G 2 "zadd" Dm:=Na yK
 have h48:ao G 1 "zmul" Bz:=UR B
 have h49:ao G 1 "zmul" Ae:=UJ h48
 have LV:ao G 5 "told_by" yl:=UI B (.cons LO (.cons (h47.mono (by decide)) (.cons (h49.mono (by decide)) aG.nil)))
 have h51:ao G 5 "told_by" Dc:=OL LV
 have b:ao G 2 "rat" jQ:=VC B (.cons h1 aG.nil)
 have h53:ao G 1 "least_divisor" Db:=Qh B
 have h54:ao G 2 "prime_factors" Cr:=Sn B (.cons h53 aG.nil)
 have h55:ao G 3 "divisors" CT:=N8 B (.cons h54 aG.nil)
 have Z:ao G 4 "candidates" z9:=Nn B (.cons (h0.mono (by decide)) (.cons h55 (.cons (b.mono (by decide)) aG.nil)))
 have LW:ao G 4 "lessened" o7:=PP B (.cons h3 aG.nil)
 have Y:ao G 5 "next_of_row" BH:=QU B (.cons EK (.cons (a.mono (by decide)) (.cons (EH.mono (by decide)) (.cons LW aG.nil))))
 have X:ao G 4 "pseudo" ub:=Sa EJ
 have W:ao G 5 "next_of_row" CI:=UP B (.cons X (.cons (a.mono (by decide)) (.cons (EH.mono (by decide)) (.cons LW aG.nil))))
 have LX:ao G 5 "next_of_row" oV:=Py Y W
 have U:ao G 6 "sturm_row" uQ:=Ot B (.cons (h.mono (by decide)) (.cons LX aG.nil))
 have S:ao G 2 "root_bound" z7:=Px B (.cons a aG.nil)
 have tu:ao G 2 "root_bound" sE:=O4 S
 have k:ao G 1 "sign_of" jG:=N9 B
 have EN:ao G 2 "value_sign" nN:=OT B (.cons k aG.nil)
 have Q:ao G 3 "sign_at" u8:=Nu B (.cons EN aG.nil)
 have P:ao G 4 "changes_at" uI:=UW B (.cons Q aG.nil)
 have LY:ao G 5 "count_by_row" yf:=Ps B (.cons P aG.nil)
 have O:ao G 5 "count_by_row" uv:=QD LY
 have N:ao G 3 "radd" uY:=NO B (.cons b aG.nil)
 have LZ:ao G 3 "rmul" r9:=Pl B (.cons b aG.nil)
 have j:ao G 4 "middle" kx:=QX B (.cons N (.cons LZ aG.nil))
 have M:ao G 7 "split_roots" xj:=Vm B (.cons U (.cons (tu.mono (by decide)) (.cons (O.mono (by decide)) (.cons (j.mono (by decide)) (.cons (EN.mono (by decide)) aG.nil)))))
 have L:ao G 6 "sturm_row" DJ:=Wd B (.cons (h.mono (by decide)) (.cons LX aG.nil))
 have J:ao G 7 "split_roots" wZ:=OO B (.cons L (.cons (tu.mono (by decide)) (.cons (LY.mono (by decide)) (.cons (j.mono (by decide)) (.cons (EN.mono (by decide)) aG.nil)))))
 have I:ao G 7 "split_roots" uk:=R4 M J
 have L0:ao G 1 "linear_of" se:=Wq B
 have i:ao G 1 "rcompare" qm:=UH B
 have L1:ao G 2 "is_inside" pE:=OC B (.cons i aG.nil)
 have F:ao G 3 "kept_off" xA:=W0 B (.cons L1 aG.nil)
 have E:ao G 2 "value_sign" uG:=Bw B (.cons k aG.nil)
 have L3:ao G 5 "halved" rZ:=UB B (.cons j (.cons (E.mono (by decide)) aG.nil))
 have D:ao G 6 "kept_off" wI:=OH B (.cons (L1.mono (by decide)) (.cons L3 aG.nil))
 have C:ao G 6 "kept_off" uj:=VE (F.mono (by decide)) D
 have A:ao G 2 "sorted_intervals" uP:=QV B (.cons i aG.nil)
 have z:ao G 9 "isolate" C6:=Qo B (.cons EM (.cons (h0.mono (by decide)) (.cons (I.mono (by decide)) (.cons (EL.mono (by decide)) (.cons (L0.mono (by decide)) (.cons (C.mono (by decide)) (.cons (A.mono (by decide)) aG.nil)))))))
 have y:ao G 3 "rsub" B9:=Wv B (.cons b aG.nil)
 have x:ao G 3 "rsub" BW:=Nj y
 have w:ao G 2 "value_sign" t9:=CQ B (.cons k aG.nil)
 have v:ao G 5 "halved" Dp:=NX B (.cons j (.cons (w.mono (by decide)) aG.nil))
 have u:ao G 5 "halved" A5:=VU L3 v
 have t:ao G 9 "refine" B6:=RI B (.cons (i.mono (by decide)) (.cons (x.mono (by decide)) (.cons EM (.cons (u.mono (by decide)) aG.nil))))
 have s:ao G 1 "rfloor" A7:=Xa B
 have r:ao G 10 "tried_roots" BI:=Qv B (.cons (h0.mono (by decide)) (.cons (b.mono (by decide)) (.cons (Z.mono (by decide)) (.cons z (.cons t (.cons (LZ.mono (by decide)) (.cons (s.mono (by decide)) aG.nil)))))))
 have q:ao G 10 "tried_roots" CO:=Oy r
 have p:ao G 2 "value_sign" AQ:=SZ B (.cons k aG.nil)
 have o:ao G 4 "zexact" Bs:=Nv B (.cons (H.mono (by decide)) (.cons LQ (.cons (EI.mono (by decide)) (.cons (m.mono (by decide)) (.cons (LS.mono (by decide)) aG.nil)))))
 have n:ao G 4 "zexact" Bh:=Pn EL o
 have g:ao G 2 "sorted_roots" Dn:=Nf B (.cons i aG.nil)
 have f:ao G 11 "rational_roots" Do:=Ng B (.cons q (.cons (h0.mono (by decide)) (.cons (p.mono (by decide)) (.cons (n.mono (by decide)) (.cons (L0.mono (by decide)) (.cons (g.mono (by decide)) aG.nil))))))
 have L4:ao G 12 "whole_zeros" wV:=Qk B (.cons (h46.mono (by decide)) (.cons (h51.mono (by decide)) (.cons f aG.nil)))
 have e:ao G 13 "dispersions" Bg:=NW B (.cons (h0.mono (by decide)) (.cons (h30.mono (by decide)) (.cons (h33.mono (by decide)) (.cons (h42.mono (by decide)) (.cons (h43.mono (by decide)) (.cons (LU.mono (by decide)) (.cons L4 aG.nil)))))))
 have d:ao G 1 "_law_times" Bn:=Vb B
 have c:ao G 1 "_law_value" Ag:=Vz B
 exact⟨(.cons (e.mono (by decide)) (.cons (d.mono (by decide)) aG.nil)),(.cons (LU.mono (by decide)) (.cons (L4.mono (by decide)) (.cons (LV.mono (by decide)) (.cons (c.mono (by decide)) aG.nil))))⟩
theorem UU:valOf bG "MOST_WALKED"=some (.int 1000):=by kernel_rfl
theorem TN:valOf bG "MOST_TOLD"=some (.int 40):=by kernel_rfl
noncomputable def JU:List (ag×V):=[("MOST_WALKED",.i 1000),("MOST_TOLD",.i 40),("MOST_NUMBERS",.i 10000000),("MOST_WORK",.i 1000000),("MOST_DIVIDED",.i 10000000000),("HALF",rV (1,2)),("R0",rV (0,1))]
theorem Ui{x:ag}{v:V}(h:yr x=some v):(x,v)∈JU:=by
 have st: ∀{c:ag} {w:V} {o:Option V} {xs:List (ag×V)},((bif x==c then some w else o)=some v)->(o=some v->(x,v)∈xs)->(x,v)∈(c,w)::xs:=λ{c w o xs} h k=>by
  cases e:x==c<;>rw[e]at h
  ·exact .tail _ (k h)
  ·rw[beq_iff_eq]at e;cases h;rw[e];exact .head _
 exact st h λh=>st h λh=>st h λh=>st h λh=>st h λh=>st h λh=>st h λh=>nomatch h
def BY(G:aK)(p:ag×V):Prop:=∃w,cI G p.1 w/\∀H:PM,(∀a o,G.hB.get? a=some o->H a=some o)->VR H p.2.t w
theorem BY.i{x:ag}{i:Int}(h: ∃v,G.mg x=some v/\∃u,v= .int i u):BY G (x,.i i):=by
 obtain⟨v,e,u,a⟩:=h
 exact⟨v,.inl e,λH z_=>by rw[a];exact VR.ofInt⟩
theorem Ka{H:PM}{a:aw}{o:bn}{i j:Int}{u v:Tok}(h:H a=some o)(ho:o={cls:=.type "tuple",dict:=none,data:=.seq #[.int i u,.int j v] 0,slots:=#[]}):VR H (rV (i,j)).t (.ref a):=by
 subst ho
 show VR H (.tup [.int i,.int j]) (.ref a)
 exact⟨a,_,_,rfl,h,⟨rfl,0,rfl⟩,_,_,rfl,⟨u,rfl⟩,_,_,rfl,⟨v,rfl⟩,rfl⟩
theorem Jy{x:ag}{i:Int}{mg:ag->Option an}(h:bo)(T: ∀d,valOf bG x=some d->∃v,mg x=some v/\∀h':bo,Reads h' v d [])(a:valOf bG x=some (.int i)): ∃v,mg x=some v/\∃u,v= .int i u:=by
 obtain⟨v,e,k⟩:=T _ a
 refine⟨v,e,?_⟩
 cases k h
 exact⟨_,rfl⟩
theorem Cf{x:ag}{i:Int}{mg:ag->Option an}{hB:bo}(V:LooseAre qr mg hB)(a:(x,WData.int i)∈qr): ∃v,mg x=some v/\∃u,v= .int i u:=by
 refine aj λb=>?_
 obtain⟨v,e,k⟩:=V.val _ a
 refine b ?_
 refine⟨v,e,?_⟩
 cases k
 exact⟨_,rfl⟩
theorem U1{prog:jV}{w:n9}{mg mb:ag->Option an}{hB:bo}{top:qn bG (lZ bG eQ) mg mb hB}(V:LooseAre qr mg hB)(Y:pC hB): ∀p∈JU,BY ⟨prog,w,bG,lZ bG eQ,mg,mb,hB,top⟩ p:=by
 refine aj λf=>?_
 obtain⟨⟨m,hm,e,d⟩,c,b⟩:=Y
 refine f ?_
 exact t8.mpr ⟨.i (Jy hB (top.const _) UU),t8.mpr ⟨.i (Jy hB (top.const _) TN),t8.mpr ⟨.i (Cf V (.tail _ (.head _))),t8.mpr ⟨.i (Cf V (.tail _ (.tail _ (.head _)))),t8.mpr ⟨.i (Cf V (.head _)),
  t8.mpr ⟨⟨.ref 350,.inl ((top.g.agree hm _).trans e),λH a=>Ka (a _ _ c) rfl⟩,t8.mpr ⟨⟨.ref 215,.inl ((top.g.agree hm _).trans d),λH a=>Ka (a _ _ b) rfl⟩,λp hp=>nomatch hp⟩⟩⟩⟩⟩⟩⟩
theorem Ru{prog:jV}{w:n9}{mg mb:ag->Option an}{hB:bo}{top:qn bG (lZ bG eQ) mg mb hB}(V:LooseAre qr mg hB)(Y:pC hB):aP ⟨prog,w,bG,lZ bG eQ,mg,mb,hB,top⟩ where
 p:=rfl
 blt:=λx v h=>by
  have hf:=and2 (zq.mp Tq _ h)
  exact .inr (Tu top hf.1 (λe=>by have :=hf.2;rw[e]at this;cases this) (List.map_inj_left.mp Vt _ h))
 glob:=λx v h=>U1 V Y _ (Ui h)
theorem Rp{h:bo}{a:aw}{vs:List an}{xs:List WData}{P:Params}(hl:h.IsList a vs.toArray)(w:Well P h (.ref a) (.list xs)): ∃o,h.get? a=some o/\cj o vs:=by
 refine aj λf=>?_
 obtain⟨e,c,tl,n1,d⟩:=hl
 refine f ?_
 cases w with
 | @list _ bA _ b _=>
  have e1:e=({cls:=.type "list",data:=.seq bA.toArray}:bn):=tJ (c.symm.trans b)
  subst e1
  refine⟨_,c,0,?_⟩
  have :bA.toArray=vs.toArray:=(Data.seq.inj d).1
  rw[this]
theorem Tn(B:aP G)(ns:List Int):gh G 31 (au 91).name [.list (ns.map .int)] (· = .bool true):=by
 obtain⟨h1,h2⟩:=Vl B
 have a:=Vo B
 have m: ∀{j k:Nat} {f:ag} {s:aM},mf G j f s->j<=k->mf G k f s:=λh l=>⟨h.1,λvs Q d bs hs hd=>h.2 vs Q d bs hs (aZ l hd)⟩
 have hr:=Wn B a
 have b:=WJ B (D:=20) (h2.mono (by decide)) (λp hp=>(bC.mp hp).symm▸m a (by decide))
 refine Pi B (D:=30) (d:=30) (h1.mono (by decide)) (λp hp=>?_) (by decide) ns
 rcases bz.mp hp with rfl|hp
 ·exact m a (by decide)
 ·rcases bz.mp hp with rfl|hp
  ·exact m hr (by decide)
  ·rw[bC.mp hp];exact m b (by decide)
theorem Yn:rB.Holds:=AK (by
 intro w s₀ a mg mb G Y A o pm cd doc dV kV ho hd yF hD j hg args vals as c d i g y
 have V:=(Ground.X G).2
 refine Ground.open G ?_
 intro T B D TE TW
 wrow_args c d i g y
 rename Well _ _ _ _=>s
 rename jc _ _=>m
 rename Heap.IsList _ _ _=>z
 rename List Int=>ns
 have hlen:ns.length<=63:=by trivial
 obtain⟨oL,u,l⟩:=Rp z s
 let Gc:aK:={prog:=rB.row.toRowW.prog,w:=w,p:=bG,loose:=lZ bG eQ,mg:=mg,mb:=mb,hB:=a.heap,top:=qn.of T}
 obtain⟨n,x,k⟩:=Tn (G:=Gc) (Ru V Y) ns
 have :n=A:=by
  have e:mg qL.name=some (.ref n):=x
  rw[j]at e;cases e;rfl
 subst this
 have th:=m.length
 have sp:a5 Gc a.heap (λb=>a.heap.get? b) ([]++[]):=⟨λb ob e=>e,λb ob e=>e,(λp h=>by cases h),Mj⟩
 refine eg (k (λb=>a.heap.get? b) _ (by
  refine⟨_,[],rfl,⟨_,_,_,rfl,u,l,?_,aF.ofInts m⟩,rfl⟩
  simp only[bi,eA];trivial) callerA a a.heap a.toks [] ⟨rfl,by decide,by decide⟩ sp) (λv s' E=>?_) λr r f=>f.elim
 obtain⟨h',aU,H',bV,e,le,C,q⟩:=E
 obtain⟨el,t,rt,q⟩:=q
 have q:t= .bool true:=q
 subst q e
 obtain rfl:v= .bool true:=rt.bool
 refine GoodW.toG ⟨.inl ⟨.bool true,.bool true,[],rfl,raisesW_false (by wrow_none_raised),.bool true,?_,unshared_nil⟩,λb ob e=>C.frz _ _ (le _ _ e),rfl,hg⟩
 first |wrow_post|rfl)
end
end Mine.Internal
end
theorem PySem.Challenge.cw_rh0034_01_holds : PySem.Challenge.rw_rh0034_01.Holds :=
  Mine.Internal.Yn
